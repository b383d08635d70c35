import PyProof.Rows.All
import Wide.All
import OpenK.AllK
import Wide.FinOn
import PySem.Challenge.RW_straightedge_k03_how_segments_cross
import PySem.Syntax
import PyProof.EqLayable
import PyProof.ReprReads
import HandS.Lambda
import HandS.ForExc
import HandS.Comp
import HandS.Iter
import HandS.Zip
import HandS.Flow
import HandS.Style
import HandS.TupAny
import HandS.TupMul
import HandS.TupLe
import HandS.Wide
import HandS.Deep
import HandS.IsInst
import HandS.TryMany
import PyProof.ReprRoads
import HandS.EndTab
import HandS.More
import PyProof.ExcBaseAll.ValueError
section
set_option linter.all false
/-! GCore: a small language of its own over data without addresses, and its evaluator. -/
namespace G
open PySem (Str PyData Operator CmpOp)

/-- data: tuples by what they hold, lists and dicts by a number of a cell -/
inductive D where
  | non | bl (b : Bool) | int (i : Int) | str (x : Str) | tup (xs : List D) | ref (n : Nat)
  deriving Inhabited
mutual
def D.beq : D → D → Bool
  | .non, .non => true
  | .bl a, .bl b => a == b
  | .int a, .int b => a == b
  | .str a, .str b => a == b
  | .tup a, .tup b => D.beqs a b
  | .ref a, .ref b => a == b
  | _, _ => false
def D.beqs : List D → List D → Bool
  | [], [] => true
  | x :: xs, y :: ys => D.beq x y && D.beqs xs ys
  | _, _ => false
end
mutual
theorem D.beq_iff : ∀ (a b : D), D.beq a b = true ↔ a = b
  | .non, b => by cases b <;> simp [D.beq]
  | .bl x, b => by cases b <;> simp [D.beq]
  | .int x, b => by cases b <;> simp [D.beq]
  | .str x, b => by cases b <;> simp [D.beq]
  | .ref x, b => by cases b <;> simp [D.beq]
  | .tup xs, b => by
    cases b with
    | tup ys => simp [D.beq, D.beqs_iff xs ys]
    | _ => simp [D.beq]
theorem D.beqs_iff : ∀ (a b : List D), D.beqs a b = true ↔ a = b
  | [], [] => by simp [D.beqs]
  | [], _ :: _ => by simp [D.beqs]
  | _ :: _, [] => by simp [D.beqs]
  | x :: xs, y :: ys => by simp [D.beqs, D.beq_iff x y, D.beqs_iff xs ys]
end
instance : DecidableEq D := fun a b => decidable_of_iff _ (D.beq_iff a b)

/-- what a number stands for -/
inductive Cell where
  | lst (xs : List D) | frz (xs : List D) | dct (kvs : List (D × D)) | set (xs : List D)
  deriving DecidableEq, Inhabited
abbrev Cells := List Cell
abbrev Lo := List (Option D)

/-- an expression's end: a value, an exception, or nothing is said -/
inductive R (α : Type) where
  | ok (a : α) (c : Cells) | ex (e : String) (c : Cells) | no
def R.bind {α β : Type} : R α → (α → Cells → R β) → R β
  | .ok a c, f => f a c
  | .ex e c, _ => .ex e c
  | .no, _ => .no
@[simp] theorem R.bind_ok {α β : Type} (a : α) (c : Cells) (f : α → Cells → R β) : (R.ok a c).bind f = f a c := rfl
@[simp] theorem R.bind_ex {α β : Type} (e : String) (c : Cells) (f : α → Cells → R β) : (R.ex e c).bind f = R.ex e c := rfl
@[simp] theorem R.bind_no {α β : Type} (f : α → Cells → R β) : (R.no : R α).bind f = R.no := rfl

/-- a statement's end -/
inductive SR where
  | nx (ρ : Lo) (c : Cells) | rt (d : D) (c : Cells) | bk (ρ : Lo) (c : Cells) | ct (ρ : Lo) (c : Cells) | ex (e : String) (ρ : Lo) (c : Cells) | no

/-! ### the language -/
inductive Tg where
  | v (i : Nat) | tup (ts : List Tg)
  deriving Inhabited
inductive Blt where
  | abs | int | len | min | max | sum | all | any | tuple | list | sorted | repr | str | set | bool | dict
  deriving DecidableEq, Inhabited
inductive Me where
  | append | extend | insert | pop | index | count | remove | get | setdefault | items | join | split
  deriving DecidableEq, Inhabited
inductive IE where
  | k (d : D) | no | v (i : Nat) | ty (t : String) | fn (e : IE)
  | bin (o : Operator) (a b : IE) | neg (a : IE)
  | cmp (o : CmpOp) (a b : IE) | chain (o1 o2 : CmpOp) (a b c : IE)
  | and (a b : IE) | or (a b : IE) | not (a : IE) | ite (c a b : IE)
  | tup (es : List IE) | lst (es : List IE) | dct0
  | ix (a b : IE) | sl (a lo hi : IE) | rv (a : IE)
  | call (f : String) (es : List IE) | lam (f : String) (e : IE)
  | blt (b : Blt) (es : List IE) | isi (e : IE) (ts : List String)
  | meth (m : Me) (o : IE) (es : List IE)
  | lc (own : List Nat) (tg : Tg) (it : IE) (ifs : List IE) (e : IE)
  | rng (es : List IE) | enum (e : IE) | zip (a b : IE) | rev (a : IE) | items (a : IE)
  deriving Inhabited
inductive IS where
  | set (t : Tg) (e : IE) | aug (o : Operator) (i : Nat) (e : IE) | setIx (o i e : IE)
  | expr (e : IE) | ret (e : IE) | retN
  | ife (c : IE) (a b : List IS) | whl (c : IE) (b : List IS) | for (t : Tg) (it : IE) (b : List IS)
  | brk | cnt | pass | raise (c : String) | try (b : List IS) (hs : List (String × D))
  deriving Inhabited
structure Fn where
  np : Nat
  nl : Nat
  body : List IS
  deriving Inhabited

/-! ### what operations give -/
def lim : Nat := 16777216
def getL (c : Cells) (n : Nat) : Option (List D) := match c[n]? with
  | some (.lst xs) => some xs
  | some (.frz xs) => some xs
  | _ => none
def b2i (b : Bool) : Int := if b then 1 else 0
def alloc (x : Cell) (c : Cells) : R D := .ok (.ref c.length) (c ++ [x])

/-! data by what it holds, lists looked up -/
mutual
def pyD (f : Nat → Option PyData) : D → Option PyData
  | .non => some .none
  | .bl b => some (.bool b)
  | .int i => some (.int i)
  | .str x => some (.str x)
  | .tup xs => match pyDs f xs with
    | some ys => some (.tuple ys)
    | none => none
  | .ref n => f n
def pyDs (f : Nat → Option PyData) : List D → Option (List PyData)
  | [] => some []
  | x :: xs => match pyD f x, pyDs f xs with
    | some y, some ys => some (y :: ys)
    | _, _ => none
end
def pyR (c : Cells) : Nat → Nat → Option PyData
  | 0, _ => none
  | k + 1, n => match getL c n with
    | some xs => (match pyDs (pyR c k) xs with
      | some ys => some (.list ys)
      | none => none)
    | none => none
def py (c : Cells) (d : D) : Option PyData := match pyD (pyR c 4) d with
  | some x => if PySem.SeqAt.shaped x = true then some x else none
  | none => none
def eqv (c : Cells) (x y : D) : Option Bool := match py c x, py c y with
  | some a, some b => some (PyData.eqv a b)
  | _, _ => none
def truth (c : Cells) : D → Option Bool
  | .non => some false
  | .bl b => some b
  | .int i => some (i != 0)
  | .str x => if x.length ≤ lim then some ((x.length : Int) != 0) else none
  | .tup xs => some (!xs.isEmpty)
  | .ref n => match c[n]? with
    | some (.lst xs) => some (!xs.isEmpty)
    | some (.frz xs) => some (!xs.isEmpty)
    | some (.dct xs) => some (!xs.isEmpty)
    | some (.set xs) => some (!xs.isEmpty)
    | none => none
def mulOk (i j : Int) : Bool := decide (i.natAbs.log2 + j.natAbs.log2 < 1000000)
def opBin (o : Operator) (x y : D) (c : Cells) : R D := match o, x, y with
  | .Add, .int i, .int j => .ok (.int (i + j)) c
  | .Add, .int i, .bl b => .ok (.int (i + b2i b)) c
  | .Add, .tup a, .tup b => if a.length + b.length ≤ lim then .ok (.tup (a ++ b)) c else .no
  | .Add, .str a, .str b => if a.length + b.length ≤ lim then .ok (.str (a ++ b)) c else .no
  | .Add, .ref m, .ref n => (match c[m]?, c[n]? with
    | some (.lst xs), some (.lst ys) => if xs.length + ys.length ≤ lim then alloc (.lst (xs ++ ys)) c else .no
    | _, _ => .no)
  | .Sub, .int i, .int j => .ok (.int (i - j)) c
  | .Sub, .bl a, .bl b => .ok (.int (b2i a - b2i b)) c
  | .Mult, .int i, .int j => if mulOk i j then .ok (.int (i * j)) c else .no
  | .Mult, .tup xs, .int k => if xs ≠ [] ∧ 2 ≤ k ∧ k ≤ 1000 ∧ xs.length ≤ 1000 then .ok (.tup (List.replicate k.toNat xs).flatten) c else .no
  | .Mult, .ref n, .int k => (match c[n]? with
    | some (.lst xs) => if -(2 ^ 63) ≤ k ∧ k < 2 ^ 63 ∧ xs.length * k.toNat ≤ lim then alloc (.lst (List.replicate k.toNat xs).flatten) c else .no
    | _ => .no)
  | .FloorDiv, .int i, .int j => if 0 < j ∧ j.natAbs.log2 < 9000 then .ok (.int (i / j)) c else .no
  | .Mod, .int i, .int j => if 0 < j then .ok (.int (i % j)) c else .no
  | .Pow, .int i, .int j => if 0 ≤ j ∧ j ≤ 1000000 ∧ i.natAbs < 2 ^ 64 then .ok (.int (i ^ j.toNat)) c else .no
  | _, _, _ => .no
def inD (c : Cells) (x : D) : D → Option Bool
  | .tup xs => match py c x, py c (.tup xs) with
    | some a, some (.tuple bs) => some (bs.any fun z => PyData.eqv z a)
    | _, _ => none
  | .ref n => match c[n]? with
    | some (.lst _) => (match py c x, py c (.ref n) with
      | some a, some (.list bs) => some (bs.any fun z => PyData.eqv z a)
      | _, _ => none)
    | _ => none
  | _ => none
def obl (o : Option Bool) (c : Cells) : R D := match o with
  | some b => .ok (.bl b) c
  | none => .no
def opCmp (o : CmpOp) (x y : D) (c : Cells) : R D := match o with
  | .Eq => obl (eqv c x y) c
  | .NotEq => obl ((eqv c x y).map (!·)) c
  | .Lt => (match x, y with | .int i, .int j => .ok (.bl (decide (i < j))) c | _, _ => .no)
  | .LtE => (match x, y with | .int i, .int j => .ok (.bl (decide (i ≤ j))) c | _, _ => .no)
  | .Gt => (match x, y with | .int i, .int j => .ok (.bl (decide (j < i))) c | _, _ => .no)
  | .GtE => (match x, y with | .int i, .int j => .ok (.bl (decide (j ≤ i))) c | _, _ => .no)
  | .Is => (match x, y with
    | x, .non => .ok (.bl (decide (x = .non))) c
    | .bl a, .bl b => .ok (.bl (decide (a = b))) c
    | _, _ => .no)
  | .IsNot => (match x, y with
    | x, .non => .ok (.bl (!decide (x = .non))) c
    | .bl a, .bl b => .ok (.bl (!decide (a = b))) c
    | _, _ => .no)
  | .In => obl (inD c x y) c
  | .NotIn => obl ((inD c x y).map (!·)) c
def ixN (n : Nat) (i : Int) : Option Nat := if 0 ≤ i then (if i < n then some i.toNat else none) else if -(n : Int) ≤ i then some (i + n).toNat else none
def atI {α : Type} (xs : List α) (i : Int) : Option α := (ixN xs.length i).bind fun j => xs[j]?
def opIx (x i : D) (c : Cells) : R D := match x, i with
  | .tup xs, .int i => (match atI xs i with | some d => .ok d c | none => .no)
  | .ref n, .int i => (match getL c n with
    | some xs => (match atI xs i with | some d => .ok d c | none => .no)
    | none => .no)
  | _, _ => .no
def sIx (n d : Nat) : Option Int → Nat
  | none => d
  | some v => if v < 0 then (v + (n : Int)).toNat else min v.toNat n
def cut {α : Type} (xs : List α) (lo hi : Option Int) : List α := (xs.drop (sIx xs.length 0 lo)).take (sIx xs.length xs.length hi - sIx xs.length 0 lo)
def opSl (x : D) (lo hi : Option Int) (c : Cells) : R D := match x with
  | .tup xs => .ok (.tup (cut xs lo hi)) c
  | .ref n => (match c[n]? with
    | some (.lst xs) => alloc (.lst (cut xs lo hi)) c
    | _ => .no)
  | _ => .no
def bls : List D → Option (List Bool)
  | [] => some []
  | .bl b :: r => (bls r).map (b :: ·)
  | _ :: _ => none
def intsOf : List D → Option (List Int)
  | [] => some []
  | .int b :: r => (intsOf r).map (b :: ·)
  | _ :: _ => none
def opBlt (b : Blt) (xs : List D) (c : Cells) : R D := match b, xs with
  | .abs, [.int i] => .ok (.int (if i < 0 then -i else i)) c
  | .int, [.int i] => .ok (.int i) c
  | .int, [.bl b] => .ok (.int (b2i b)) c
  | .len, [.tup xs] => .ok (.int xs.length) c
  | .len, [.str x] => if x.length ≤ lim then .ok (.int x.length) c else .no
  | .len, [.ref n] => (match c[n]? with
    | some (.lst xs) => .ok (.int xs.length) c
    | some (.frz xs) => .ok (.int xs.length) c
    | _ => .no)
  | .min, [.int i, .int j] => .ok (.int (if j < i then j else i)) c
  | .max, [.int i, .int j] => .ok (.int (if j > i then j else i)) c
  | .all, [.ref n] => (match c[n]? with
    | some (.lst xs) => (match bls xs with | some bs => .ok (.bl (bs.all id)) c | none => .no)
    | _ => .no)
  | .any, [.ref n] => (match c[n]? with
    | some (.lst xs) => (match bls xs with | some bs => .ok (.bl (bs.any id)) c | none => .no)
    | _ => .no)
  | .sum, [.ref n] => (match c[n]? with
    | some (.lst xs) => (match intsOf xs with | some bs => .ok (.int bs.sum) c | none => .no)
    | _ => .no)
  | .tuple, [.ref n] => (match c[n]? with
    | some (.lst xs) => .ok (.tup xs) c
    | _ => .no)
  | .tuple, [.tup xs] => .ok (.tup xs) c
  | .list, [.ref n] => (match c[n]? with
    | some (.lst xs) => alloc (.lst xs) c
    | some (.frz xs) => alloc (.lst xs) c
    | _ => .no)
  | .list, [.tup xs] => alloc (.lst xs) c
  | .repr, [x] => (match py c x with
    | some p => if p.showable = true ∧ p.shown.length ≤ lim then .ok (.str p.shown) c else .no
    | none => .no)
  | _, _ => .no
def tyOf (c : Cells) : D → Option String
  | .non => some "NoneType"
  | .bl _ => some "bool"
  | .int _ => some "int"
  | .str _ => some "str"
  | .tup _ => some "tuple"
  | .ref n => match c[n]? with
    | some (.lst _) => some "list"
    | some (.frz _) => some "list"
    | some (.dct _) => some "dict"
    | some (.set _) => some "set"
    | none => none
def isTy (t : String) (ts : List String) : Bool := ts.any fun u => t == u || (t == "bool" && u == "int")
/-- whose method it is -/
def meT : Me → String
  | .get => "dict" | .setdefault => "dict" | .items => "dict" | .join => "str" | .split => "str" | _ => "list"
def opMeth (m : Me) (o : D) (xs : List D) (c : Cells) : R D := match m, o, xs with
  | .append, .ref n, [x] => (match c[n]? with
    | some (.lst ys) => if ys.length < lim then .ok .non (c.set n (.lst (ys ++ [x]))) else .no
    | _ => .no)
  | .extend, .ref n, [.ref m] => (match c[n]?, c[m]? with
    | some (.lst ys), some (.lst zs) => if ys.length + zs.length ≤ lim then .ok .non (c.set n (.lst (ys ++ zs))) else .no
    | _, _ => .no)
  | .pop, .ref n, [] => (match c[n]? with
    | some (.lst ys) => (match ys[ys.length - 1]? with | some y => .ok y (c.set n (.lst ys.dropLast)) | none => .no)
    | _ => .no)
  | _, _, _ => .no

/-! ### targets -/
mutual
def asg (c : Cells) : Tg → D → Lo → Option Lo
  | .v i, d, ρ => some (ρ.set i (some d))
  | .tup ts, .tup xs, ρ => asgs c ts xs ρ
  | .tup ts, .ref n, ρ => match c[n]? with
    | some (.lst xs) => asgs c ts xs ρ
    | _ => none
  | .tup _, _, _ => none
def asgs (c : Cells) : List Tg → List D → Lo → Option Lo
  | [], [], ρ => some ρ
  | t :: ts, x :: xs, ρ => match asg c t x ρ with
    | some ρ' => asgs c ts xs ρ'
    | none => none
  | _, _, _ => none
end
def wipe (ρ : Lo) : List Nat → Lo
  | [] => ρ
  | i :: r => (wipe ρ r).set i none

/-! ### loops -/
/-- the cells ws stand as they stood -/
def same (ws : List Nat) (c c' : Cells) : Bool := ws.all fun n => decide (c[n]? = c'[n]?)
/-- a comprehension's turns: f gives the item that is kept, if one is -/
def lcGo (f : D → Cells → R (Option D)) (ws : List Nat) : List D → Cells → R (List D)
  | [], c => .ok [] c
  | x :: xs, c => (f x c).bind fun o c1 => if same ws c c1 then (lcGo f ws xs c1).bind fun ys c2 => (match o with
      | some y => .ok (y :: ys) c2
      | none => .ok ys c2) else .no
/-- a for's turns -/
def forGo (f : D → Lo → Cells → SR) (ws : List Nat) : List D → Lo → Cells → SR
  | [], ρ, c => .nx ρ c
  | x :: xs, ρ, c => match f x ρ c with
    | .nx ρ' c' => if same ws c c' then forGo f ws xs ρ' c' else .no
    | .ct ρ' c' => if same ws c c' then forGo f ws xs ρ' c' else .no
    | .bk ρ' c' => .nx ρ' c'
    | r => r
/-- a while's turns, by fuel -/
def whlN (f : Lo → Cells → Lo × Cells ⊕ SR) : Nat → Lo → Cells → Option SR
  | 0, _, _ => none
  | n + 1, ρ, c => match f ρ c with
    | .inl (ρ', c') => whlN f n ρ' c'
    | .inr r => some r
theorem whlN_mono (f : Lo → Cells → Lo × Cells ⊕ SR) : ∀ (n m : Nat) (ρ : Lo) (c : Cells) (r : SR), whlN f n ρ c = some r → n ≤ m → whlN f m ρ c = some r
  | 0, _, _, _, _, h, _ => by simp [whlN] at h
  | n + 1, m, ρ, c, r, h, hm => by
    obtain ⟨m, rfl⟩ : ∃ k, m = k + 1 := ⟨m - 1, by omega⟩
    unfold whlN at h ⊢
    split at h
    · exact whlN_mono f n m _ _ r h (by omega)
    · exact h
open Classical in
/-- a while's end, if it comes to one -/
noncomputable def whlGo (f : Lo → Cells → Lo × Cells ⊕ SR) (ρ : Lo) (c : Cells) : SR :=
  if h : ∃ r, ∃ n, whlN f n ρ c = some r then h.choose else .no
theorem whlGo_of {f : Lo → Cells → Lo × Cells ⊕ SR} {ρ : Lo} {c : Cells} {r : SR} {n : Nat} (h : whlN f n ρ c = some r) : whlGo f ρ c = r := by
  have e : ∃ r, ∃ n, whlN f n ρ c = some r := ⟨r, n, h⟩
  unfold whlGo
  rw [dif_pos e]
  obtain ⟨m, hm⟩ := e.choose_spec
  have h1 := whlN_mono f n (n + m) ρ c r h (by omega)
  have h2 := whlN_mono f m (n + m) ρ c _ hm (by omega)
  rw [h1] at h2
  exact (Option.some.inj h2).symm
theorem whlGo_eq (f : Lo → Cells → Lo × Cells ⊕ SR) (ρ : Lo) (c : Cells) : whlGo f ρ c = match f ρ c with
    | .inl (ρ', c') => whlGo f ρ' c'
    | .inr r => r := by
  by_cases h : ∃ r, ∃ n, whlN f n ρ c = some r
  · obtain ⟨r, n, e⟩ := h
    rw [whlGo_of e]
    cases n with
    | zero => simp [whlN] at e
    | succ n =>
      unfold whlN at e
      cases q : f ρ c with
      | inl p => rw [q] at e; exact (whlGo_of e).symm
      | inr t => rw [q] at e; exact (Option.some.inj e).symm
  · have e1 : whlGo f ρ c = .no := by unfold whlGo; rw [dif_neg h]
    rw [e1]
    cases q : f ρ c with
    | inl p =>
      have h' : ¬ ∃ r, ∃ n, whlN f n p.1 p.2 = some r := fun ⟨r, n, e⟩ => h ⟨r, n + 1, by unfold whlN; rw [q]; exact e⟩
      show SR.no = whlGo f p.1 p.2
      unfold whlGo
      rw [dif_neg h']
    | inr r => exact absurd ⟨r, 1, by unfold whlN; rw [q]⟩ h

/-! ### the evaluator -/
/-- try: f() / except ..: return ..; return d -/
structure Thk where
  hs : List (String × D)
  d : D
  deriving Inhabited
structure Ctx where
  call : String → List D → Cells → R D
  thks : List (String × Thk)
  excs : List String

def rngL (a b : Int) : List D := (List.range (b - a).toNat).map fun (k : Nat) => D.int (a + k)
def rngOf : List D → Option (List D)
  | [.int b] => if -(2 ^ 62) ≤ b ∧ b < 2 ^ 62 then some (rngL 0 b) else none
  | [.int a, .int b] => if -(2 ^ 62) ≤ a ∧ a < 2 ^ 62 ∧ -(2 ^ 62) ≤ b ∧ b < 2 ^ 62 then some (rngL a b) else none
  | [.int a, .int b, .int (-1)] => if -(2 ^ 62) ≤ a ∧ a < 2 ^ 62 ∧ -(2 ^ 62) ≤ b ∧ b < 2 ^ 62 then some ((List.range (a - b).toNat).map fun (k : Nat) => D.int (a - k)) else none
  | _ => none
def enumL (k : Nat) : List D → List D
  | [] => []
  | x :: xs => .tup [.int k, x] :: enumL (k + 1) xs

mutual
def dE (Γ : Ctx) : IE → Lo → Cells → R D
  | .k d, _, c => .ok d c
  | .no, _, _ => .no
  | .v i, ρ, c => match ρ[i]? with
    | some (some d) => .ok d c
    | _ => .no
  | .ty _, _, _ => .no
  | .fn _, _, _ => .no
  | .bin o a b, ρ, c => (dE Γ a ρ c).bind fun x c1 => (dE Γ b ρ c1).bind fun y c2 => opBin o x y c2
  | .neg a, ρ, c => (dE Γ a ρ c).bind fun x c1 => match x with
    | .int i => .ok (.int (-i)) c1
    | _ => .no
  | .cmp o a b, ρ, c => (dE Γ a ρ c).bind fun x c1 => (dE Γ b ρ c1).bind fun y c2 => opCmp o x y c2
  | .chain o1 o2 a b e, ρ, c => (dE Γ a ρ c).bind fun x c1 => (dE Γ b ρ c1).bind fun y c2 => (opCmp o1 x y c2).bind fun t c3 => match t with
    | .bl true => (dE Γ e ρ c3).bind fun z c4 => opCmp o2 y z c4
    | .bl false => .ok (.bl false) c3
    | _ => .no
  | .and a b, ρ, c => (dE Γ a ρ c).bind fun x c1 => match truth c1 x with
    | some true => dE Γ b ρ c1
    | some false => .ok x c1
    | none => .no
  | .or a b, ρ, c => (dE Γ a ρ c).bind fun x c1 => match truth c1 x with
    | some true => .ok x c1
    | some false => dE Γ b ρ c1
    | none => .no
  | .not a, ρ, c => (dE Γ a ρ c).bind fun x c1 => match truth c1 x with
    | some b => .ok (.bl (!b)) c1
    | none => .no
  | .ite t a b, ρ, c => (dE Γ t ρ c).bind fun x c1 => match truth c1 x with
    | some true => dE Γ a ρ c1
    | some false => dE Γ b ρ c1
    | none => .no
  | .tup es, ρ, c => (dEs Γ es ρ c).bind fun xs c1 => if xs.length ≤ lim then .ok (.tup xs) c1 else .no
  | .lst es, ρ, c => (dEs Γ es ρ c).bind fun xs c1 => if xs.length ≤ lim then alloc (.lst xs) c1 else .no
  | .dct0, _, c => alloc (.dct []) c
  | .ix a b, ρ, c => (dE Γ a ρ c).bind fun x c1 => (dE Γ b ρ c1).bind fun y c2 => opIx x y c2
  | .sl a lo hi, ρ, c => (dE Γ a ρ c).bind fun x c1 => (dO Γ lo ρ c1).bind fun l c2 => (dO Γ hi ρ c2).bind fun h c3 => opSl x l h c3
  | .rv a, ρ, c => (dE Γ a ρ c).bind fun x c1 => match x with
    | .tup xs => .ok (.tup xs.reverse) c1
    | .ref n => (match c1[n]? with
      | some (.lst xs) => alloc (.lst xs.reverse) c1
      | _ => .no)
    | _ => .no
  | .call f es, ρ, c => (dEs Γ es ρ c).bind fun xs c1 => Γ.call f xs c1
  | .lam f e, ρ, c => match Γ.thks.lookup f with
    | some t => (match dE Γ e ρ c with
      | .ok _ c1 => .ok t.d c1
      | .ex x c1 => if x ∈ Γ.excs then (match t.hs.lookup x with
        | some d => .ok d c1
        | none => .no) else .no
      | .no => .no)
    | none => .no
  | .blt b es, ρ, c => (dEs Γ es ρ c).bind fun xs c1 => opBlt b xs c1
  | .isi e ts, ρ, c => (dE Γ e ρ c).bind fun x c1 => match tyOf c1 x with
    | some t => .ok (.bl (isTy t ts)) c1
    | none => .no
  | .meth m o es, ρ, c => (dE Γ o ρ c).bind fun x c1 => if tyOf c1 x = some (meT m) then (dEs Γ es ρ c1).bind fun xs c2 => opMeth m x xs c2 else .no
  | .lc own tg it ifs e, ρ, c => (dI Γ it ρ c).bind fun p c1 => (lcGo (fun x c2 => match asg c2 tg x (wipe ρ own) with
      | none => .no
      | some ρ' => (match dT Γ ifs ρ' c2 with
        | .ok true c3 => (match dE Γ e ρ' c3 with
          | .ok y c4 => .ok (some y) c4
          | _ => .no)
        | .ok false c3 => .ok none c3
        | _ => .no)) p.2 p.1 c1).bind fun ys c2 => if ys.length ≤ lim then alloc (.lst ys) c2 else .no
  | .rng _, _, _ => .no
  | .enum _, _, _ => .no
  | .zip _ _, _, _ => .no
  | .rev _, _, _ => .no
  | .items _, _, _ => .no
def dEs (Γ : Ctx) : List IE → Lo → Cells → R (List D)
  | [], _, c => .ok [] c
  | e :: es, ρ, c => (dE Γ e ρ c).bind fun x c1 => (dEs Γ es ρ c1).bind fun xs c2 => .ok (x :: xs) c2
/-- a slice's part -/
def dO (Γ : Ctx) : IE → Lo → Cells → R (Option Int)
  | .no, _, c => .ok none c
  | e, ρ, c => (dE Γ e ρ c).bind fun x c1 => match x with
    | .int i => .ok (some i) c1
    | _ => .no
/-- a comprehension's tests -/
def dT (Γ : Ctx) : List IE → Lo → Cells → R Bool
  | [], _, c => .ok true c
  | e :: es, ρ, c => (dE Γ e ρ c).bind fun x c1 => match truth c1 x with
    | some true => dT Γ es ρ c1
    | some false => .ok false c1
    | none => .no
/-- what is walked: the items, the cells that may not change meanwhile -/
def dI (Γ : Ctx) : IE → Lo → Cells → R (List D × List Nat)
  | .rng es, ρ, c => (dEs Γ es ρ c).bind fun xs c1 => match rngOf xs with
    | some ys => .ok (ys, []) c1
    | none => .no
  | .enum e, ρ, c => (dE Γ e ρ c).bind fun x c1 => match x with
    | .tup xs => .ok (enumL 0 xs, []) c1
    | .ref n => (match c1[n]? with
      | some (.lst xs) => .ok (enumL 0 xs, [n]) c1
      | _ => .no)
    | _ => .no
  | .zip a b, ρ, c => (dE Γ a ρ c).bind fun x c1 => (dE Γ b ρ c1).bind fun y c2 => match x, y with
    | .tup xs, .tup ys => .ok ((xs.zip ys).map fun p => .tup [p.1, p.2], []) c2
    | .ref m, .ref n => (match c2[m]?, c2[n]? with
      | some (.lst xs), some (.lst ys) => .ok ((xs.zip ys).map fun p => .tup [p.1, p.2], [m, n]) c2
      | _, _ => .no)
    | _, _ => .no
  | e, ρ, c => (dE Γ e ρ c).bind fun x c1 => match x with
    | .tup xs => .ok (xs, []) c1
    | .ref n => (match c1[n]? with
      | some (.lst xs) => .ok (xs, [n]) c1
      | some (.frz xs) => .ok (xs, [n]) c1
      | _ => .no)
    | _ => .no
end

def ofE (r : R D) (ρ : Lo) (f : D → Cells → SR) : SR := match r with
  | .ok d c => f d c
  | .ex e c => .ex e ρ c
  | .no => .no
mutual
noncomputable def dS (Γ : Ctx) : IS → Lo → Cells → SR
  | .set t e, ρ, c => ofE (dE Γ e ρ c) ρ fun x c1 => match asg c1 t x ρ with
    | some ρ' => .nx ρ' c1
    | none => .no
  | .aug o i e, ρ, c => match ρ[i]? with
    | some (some (.int x)) => ofE (dE Γ e ρ c) ρ fun y c1 => (match o, y with
      | .Add, .int z => .nx (ρ.set i (some (.int (x + z)))) c1
      | .Sub, .int z => .nx (ρ.set i (some (.int (x - z)))) c1
      | _, _ => .no)
    | _ => .no
  | .setIx o i e, ρ, c => ofE (dE Γ e ρ c) ρ fun z c1 => ofE (dE Γ o ρ c1) ρ fun x c2 => ofE (dE Γ i ρ c2) ρ fun y c3 => match x, y with
    | .ref n, .int k => (match c3[n]? with
      | some (.lst xs) => (match ixN xs.length k with
        | some j => .nx ρ (c3.set n (.lst (xs.set j z)))
        | none => .no)
      | _ => .no)
    | _, _ => .no
  | .expr e, ρ, c => ofE (dE Γ e ρ c) ρ fun _ c1 => .nx ρ c1
  | .ret e, ρ, c => ofE (dE Γ e ρ c) ρ fun x c1 => .rt x c1
  | .retN, _, c => .rt .non c
  | .ife t a b, ρ, c => ofE (dE Γ t ρ c) ρ fun x c1 => match truth c1 x with
    | some true => dSs Γ a ρ c1
    | some false => dSs Γ b ρ c1
    | none => .no
  | .whl t b, ρ, c => whlGo (fun ρ c => match dE Γ t ρ c with
      | .ok x c1 => (match truth c1 x with
        | some true => (match dSs Γ b ρ c1 with
          | .nx ρ' c' => .inl (ρ', c')
          | .ct ρ' c' => .inl (ρ', c')
          | .bk ρ' c' => .inr (.nx ρ' c')
          | r => .inr r)
        | some false => .inr (.nx ρ c1)
        | none => .inr .no)
      | .ex e c1 => .inr (.ex e ρ c1)
      | .no => .inr .no) ρ c
  | .for t it b, ρ, c => match dI Γ it ρ c with
    | .ok p c1 => forGo (fun x ρ c => match asg c t x ρ with
      | none => .no
      | some ρ' => dSs Γ b ρ' c) p.2 p.1 ρ c1
    | .ex e c1 => .ex e ρ c1
    | .no => .no
  | .brk, ρ, c => .bk ρ c
  | .cnt, ρ, c => .ct ρ c
  | .pass, ρ, c => .nx ρ c
  | .raise e, ρ, c => .ex e ρ c
  | .try b hs, ρ, c => match dSs Γ b ρ c with
    | .ex e ρ' c' => if e ∈ Γ.excs then (match hs.lookup e with
      | some d => .rt d c'
      | none => .ex e ρ' c') else .no
    | r => r
noncomputable def dSs (Γ : Ctx) : List IS → Lo → Cells → SR
  | [], ρ, c => .nx ρ c
  | s :: r, ρ, c => match dS Γ s ρ c with
    | .nx ρ' c' => dSs Γ r ρ' c'
    | x => x
end
structure Tab where
  fns : List (String × Fn)
  thks : List (String × Thk)
  excs : List String
def start (fn : Fn) (xs : List D) : Lo := xs.map some ++ List.replicate (fn.nl - xs.length) none
def ofS : SR → R D
  | .nx _ c => .ok .non c
  | .rt d c => .ok d c
  | .ex e _ c => .ex e c
  | _ => .no
/-! ### what a call leaves behind -/
mutual
def D.bel (n : Nat) : D → Bool
  | .tup xs => D.bels n xs
  | .ref m => decide (m < n)
  | _ => true
def D.bels (n : Nat) : List D → Bool
  | [] => true
  | x :: xs => D.bel n x && D.bels n xs
end
def Cell.bel (n : Nat) : Cell → Bool
  | .lst xs => D.bels n xs
  | .frz xs => D.bels n xs
  | .dct kvs => kvs.all fun p => D.bel n p.1 && D.bel n p.2
  | .set xs => D.bels n xs
/-- the cells that were there hold nothing new -/
def kept (c c' : Cells) : Bool := decide (c.length ≤ c'.length) && (List.range c.length).all fun i => decide (c'[i]? = c[i]?) || (match c'[i]? with
  | some x => x.bel c.length
  | none => false)
/-- cells that nothing names any more are dropped; a new list that is told comes first -/
def gcR (c : Cells) : R D → R D
  | .ok d c' => if kept c c' = true then (if d.bel c.length = true then .ok d (c'.take c.length) else match d with
    | .ref m => (match c'[m]? with
      | some (.lst xs) => if D.bels c.length xs = true then .ok (.ref c.length) (c'.take c.length ++ [.lst xs]) else .ok d c'
      | _ => .ok d c')
    | _ => .ok d c') else .ok d c'
  | .ex e c' => if kept c c' = true then .ex e (c'.take c.length) else .ex e c'
  | .no => .no
noncomputable def callD (T : Tab) : Nat → String → List D → Cells → R D
  | 0, _, _, _ => .no
  | k + 1, f, xs, c => match T.fns.lookup f with
    | some fn => if xs.length = fn.np then gcR c (ofS (dSs ⟨callD T k, T.thks, T.excs⟩ fn.body (start fn xs) c)) else .no
    | none => .no
end G
end

section
set_option linter.all false
/-! GComp: from the program's own syntax to the small language. -/
namespace G
open PySem

structure GI where
  fns : List String
  thks : List String
  lam : Bool
  consts : List (String × D)
  excs : List String
  /-- the defs that want nothing of the place of a call -/
  pl : List String
  /-- whether it is known that nothing is being shown -/
  gd : Bool

/-- no lambdas -/
def GI.nc (g : GI) : GI := { g with lam := false }
/-- within a lambda -/
def GI.nl (g : GI) : GI := { g with lam := false, fns := g.pl, gd := false }
def o1 {α β : Type} (f : α → β) : Option α → Option β
  | some a => some (f a)
  | none => none
def o2 {α β γ : Type} (f : α → β → γ) : Option α → Option β → Option γ
  | some a, some b => some (f a b)
  | _, _ => none
def o3 {α β γ δ : Type} (f : α → β → γ → δ) : Option α → Option β → Option γ → Option δ
  | some a, some b, some c => some (f a b c)
  | _, _, _ => none
theorem o1_some {α β : Type} {f : α → β} {a : Option α} {r : β} (h : o1 f a = some r) : ∃ x, a = some x ∧ r = f x := by
  cases a with
  | none => cases h
  | some x => exact ⟨x, rfl, (Option.some.inj h).symm⟩
theorem o2_some {α β γ : Type} {f : α → β → γ} {a : Option α} {b : Option β} {r : γ} (h : o2 f a b = some r) : ∃ x y, a = some x ∧ b = some y ∧ r = f x y := by
  cases a with
  | none => cases h
  | some x =>
    cases b with
    | none => cases h
    | some y => exact ⟨x, y, rfl, rfl, (Option.some.inj h).symm⟩
theorem o3_some {α β γ δ : Type} {f : α → β → γ → δ} {a : Option α} {b : Option β} {c : Option γ} {r : δ} (h : o3 f a b c = some r) : ∃ x y z, a = some x ∧ b = some y ∧ c = some z ∧ r = f x y z := by
  cases a with
  | none => cases h
  | some x =>
    cases b with
    | none => cases h
    | some y =>
      cases c with
      | none => cases h
      | some z => exact ⟨x, y, z, rfl, rfl, rfl, (Option.some.inj h).symm⟩

def slot (N : List Str) (x : Str) : Option Nat := N.findIdx? (· == x)
def look (l : List String) (x : Str) : Option String := l.find? fun s => Str.ofString s == x
def lookC (l : List (String × D)) (x : Str) : Option D := (l.find? fun p => Str.ofString p.1 == x).map (·.2)
def bltTys : List String := ["int", "bool", "str", "tuple", "list", "dict", "set"]
def bltOf : List (String × Blt) := [("abs", .abs), ("int", .int), ("len", .len), ("min", .min), ("max", .max), ("sum", .sum), ("all", .all), ("any", .any), ("tuple", .tuple), ("list", .list)]
def meOf : List (String × Me) := [("append", .append), ("extend", .extend)]
def bltNames : List String := ["abs", "int", "len", "min", "max", "sum", "all", "any", "tuple", "list", "isinstance", "range", "enumerate", "zip", "reversed", "bool", "str", "dict", "set", "sorted", "repr"]
def lookB {α : Type} (l : List (String × α)) (x : Str) : Option (String × α) := l.find? fun p => Str.ofString p.1 == x

def cK : Const → Option IE
  | .none => some (.k .non)
  | .bool b => some (.k (.bl b))
  | .int i => some (.k (.int i))
  | .str x => some (.k (.str x))
  | _ => none
def visB (sc : Scope) (x : Str) : Bool := match sc.names.lookup x with
  | some .local => true
  | some .cell => true
  | some .free => true
  | _ => false
def locB (sc : Scope) (x : Str) : Bool := match sc.names.lookup x with
  | some .local => true
  | some .cell => true
  | _ => false
def glB (sc : Scope) (x : Str) : Bool := match sc.names.lookup x with
  | some .globalImplicit => true
  | _ => false
def plainN (x : Str) : Bool := !(x == ("__debug__" : Str)) && !(x == ("__classdict__" : Str)) && !(x == ("super" : Str)) && !(x == ("__name__" : Str))
/-- a name as a value -/
def cN (G : GI) (N : List Str) (sc : Scope) (x : Str) : Option IE :=
  if plainN x = true then
    if visB sc x = true then o1 IE.v (slot N x)
    else if glB sc x = true then (match lookC G.consts x with
      | some d => some (.k d)
      | none => o1 IE.ty (look bltTys x))
    else none
  else none
/-- something -/
def live : Option IE → Option IE
  | some .no => none
  | x => x
/-- the classes of an isinstance -/
def tyE (sc : Scope) : Expr → Option String
  | .Name x _ => if (plainN x && glB sc x) = true then look bltTys x else none
  | _ => none
def tysE (sc : Scope) : List Expr → Option (List String)
  | [] => some []
  | e :: es => o2 List.cons (tyE sc e) (tysE sc es)
def few (o : Option (List String)) : Option (List String) := match o with
  | some ts => if ts.length ≤ 100 then some ts else none
  | none => none
/-- isinstance: one class, or a tuple of classes -/
def cIsi (sc : Scope) (as : List Expr) (es : List IE) : Option IE := match as, es with
  | [_, c], [e, _] => (match c with
    | .Tuple ts _ _ => o1 (IE.isi e) (few (tysE sc ts))
    | _ => o1 (fun t => IE.isi e [t]) (tyE sc c))
  | _, _ => none
/-- f(..), f a global name -/
def cCall (G : GI) (sc : Scope) (f : Str) (as : List Expr) (es : List IE) : Option IE :=
  match look G.fns f with
  | some g => some (.call g es)
  | none => match look bltNames f with
    | none => none
    | some b =>
      if b = "isinstance" then cIsi sc as es
      else if b = "range" then (match es with | [_] => some (.rng es) | [_, _] => some (.rng es) | [_, _, _] => some (.rng es) | _ => none)
      else if b = "repr" then (match es with | [x] => if G.gd = true then some (.blt .repr [x]) else none | _ => none)
      else match bltOf.lookup b with
        | some m => (match es with | [] => none | _ :: _ => some (.blt m es))
        | none => none
def ownOf (N : List Str) (sc : Scope) : Option (List (Str × Nat)) := (sc.names.filter fun y => match y.2 with | .local => true | .cell => true | _ => false).mapM fun y => (slot N y.1).map fun i => (y.1, i)
/-- a comprehension's block over the scope around (as HandS.Comp asks it) -/
def blkB (N : List Str) (sc scope : Scope) (own : List (Str × Nat)) : Bool :=
  (match scope.kind with | .function => true | _ => false) && (scope.names.all fun y => decide (scope.names.lookup y.1 = some y.2)) && (own.all fun p => decide (N[p.2]? = some p.1)) &&
    (scope.names.all fun y => match y.2 with
      | .free => (match sc.names.lookup y.1 with | some .cell => true | some .free => true | _ => false)
      | .local => decide (y.1 ∈ own.map (·.1)) || decide (y.1 ∉ N)
      | .cell => decide (y.1 ∈ own.map (·.1)) || decide (y.1 ∉ N)
      | _ => true)
/-- a block's scope as it runs: names of the def around are its cells -/
def relC (scope sc : Scope) : Scope :=
  { scope with names := scope.names.map fun (n, k) => if (k == .free && sc.kind == .function && sc.names.lookup n == some .cell) then (n, .cell) else (n, k) }
mutual
def cT (N : List Str) (sc : Scope) : Expr → Option Tg
  | .Name x _ => if locB sc x = true then o1 Tg.v (slot N x) else none
  | .Tuple es _ _ => o1 Tg.tup (cTs N sc es)
  | _ => none
def cTs (N : List Str) (sc : Scope) : List Expr → Option (List Tg)
  | [] => some []
  | e :: es => o2 List.cons (cT N sc e) (cTs N sc es)
end
mutual
def tgSlots : Tg → List Nat
  | .v i => [i]
  | .tup ts => tgsSlots ts
def tgsSlots : List Tg → List Nat
  | [] => []
  | t :: ts => tgSlots t ++ tgsSlots ts
end
/-- no parameters -/
def noArgs : Arguments → Bool
  | ⟨[], [], none, [], [], none, []⟩ => true
  | _ => false
mutual
def cE : GI → List Str → Scope → Expr → Option IE
  | _, _, _, .Constant c _ _ => cK c
  | G, N, sc, .Name x _ => cN G N sc x
  | G, N, sc, .BinOp a o b _ => o2 (IE.bin o) (cE G N sc a) (cE G N sc b)
  | G, N, sc, .UnaryOp o a _ => (match o with
    | .Not => o1 IE.not (cE G N sc a)
    | .USub => o1 IE.neg (cE G N sc a)
    | _ => none)
  | G, N, sc, .BoolOp o vs _ => (match vs with
    | _ :: _ :: _ => cB G N sc o vs
    | _ => none)
  | G, N, sc, .Compare a ops bs _ => (match ops, cE G N sc a, cEs G N sc bs with
    | [o], some x, some [y] => some (.cmp o x y)
    | [o, o'], some x, some [y, z] => some (.chain o o' x y z)
    | _, _, _ => none)
  | G, N, sc, .IfExp t a b _ => o3 IE.ite (cE G N sc t) (cE G N sc a) (cE G N sc b)
  | G, N, sc, .Tuple es _ _ => o1 IE.tup (cEs G N sc es)
  | G, N, sc, .List es _ => o1 IE.lst (cEs G N sc es)
  | G, N, sc, .Subscript a (.Slice lo hi st _) _ => (match st with
    | none => o3 IE.sl (cE G N sc a) (cO G N sc lo) (cO G N sc hi)
    | some (.UnaryOp .USub (.Constant (.int 1) _ _) _) => (match lo, hi with
      | none, none => o1 IE.rv (cE G N sc a)
      | _, _ => none)
    | _ => none)
  | G, N, sc, .Subscript a b _ => o2 IE.ix (cE G N sc a) (cE G N sc b)
  | G, N, sc, .Call (.Name f _) [.Lambda args b scope _] [] _ => if (G.lam && noArgs args && LamX.lamSB sc scope && glB sc f && plainN f) = true then o2 IE.lam (look G.thks f) (cE G.nl N scope b) else none
  | G, N, sc, .Call (.Name f _) as [] _ => (match cEs G N sc as with
    | some es => if glB sc f = true then (if plainN f = true then cCall G sc f as es else none) else none
    | none => none)
  | G, N, sc, .Call (.Attribute o m ap) as [] p => (match lookB meOf m, cE G N sc o, cEs G N sc as with
    | some q, some x, some (y :: es) => if (ap.endLine == p.line && decide (es.length < 28)) = true then some (.meth q.2 x (y :: es)) else none
    | _, _, _ => none)
  | G, N, sc, .ListComp e gs scope _ => (match gs with
    | [.mk tg it ifs as] => (match ownOf N scope, cT N scope tg, cE G N sc it, cEs G.nc N (relC scope sc) ifs, cE G.nc N (relC scope sc) e with
      | some own, some t, some i, some fs, some x => if as = 0 then (if (decide (ifs.length ≤ 1) && blkB N sc scope own && (tgSlots t).all (fun j => (own.map (·.2)).contains j)) = true then some (.lc (own.map (·.2)) t i fs x) else none) else none
      | _, _, _, _, _ => none)
    | _ => none)
  | _, _, _, _ => none
def cEs : GI → List Str → Scope → List Expr → Option (List IE)
  | _, _, _, [] => some []
  | G, N, sc, e :: es => o2 List.cons (cE G N sc e) (cEs G N sc es)
def cO : GI → List Str → Scope → Option Expr → Option IE
  | _, _, _, none => some .no
  | G, N, sc, some e => live (cE G N sc e)
def cB : GI → List Str → Scope → BoolOp → List Expr → Option IE
  | _, _, _, _, [] => none
  | G, N, sc, _, [e] => cE G N sc e
  | G, N, sc, o, e :: es => o2 (match o with | .And => IE.and | .Or => IE.or) (cE G N sc e) (cB G N sc o es)
end

/-! ### statements -/
def envD (sc : Scope) : Env := { scope := sc, locals := 0, globals := 0, cells := [] }
/-- whether a pair's stores are swapped (none: the semantics says nothing) -/
def swC (sc : Scope) (t e : Expr) : Option (Option (List Str)) := match swappedStores [t] e (envD sc) with
  | .pure r => some r
  | _ => none
/-- a suite's constant -/
def kD : Expr → Option D
  | .Constant .none _ _ => some .non
  | .Constant (.bool b) _ _ => some (.bl b)
  | .Constant (.int i) _ _ => some (.int i)
  | .Constant (.str x) _ _ => some (.str x)
  | _ => none
def excN (ex : List String) (sc : Scope) (x : Str) : Option String := if glB sc x = true then (if plainN x = true then look ex x else none) else none
def cH (ex : List String) (sc : Scope) : ExceptHandler → Option (String × D)
  | .ExceptHandler (some (.Name x _)) none [.Return (some e) _] _ => o2 Prod.mk (excN ex sc x) (kD e)
  | _ => none
def cHs (ex : List String) (sc : Scope) : List ExceptHandler → Option (List (String × D))
  | [] => some []
  | h :: hs => o2 List.cons (cH ex sc h) (cHs ex sc hs)
/-- the call of a -/
def isAct (a : Str) : Expr → Bool
  | .Call (.Name x _) [] [] _ => x == a
  | _ => false
/-- try: a() / except ..: return ..; return d -/
def cThk (ex : List String) (sc : Scope) (a : Str) : List Stmt → Option Thk
  | [.Try [.Expr c _] (h :: hs) [] [] _, .Return (some e) _] => if isAct a c = true then o2 Thk.mk (cHs ex sc (h :: hs)) (kD e) else none
  | [.Try [.Expr c _, .Return (some e) _] (h :: hs) [] [] _] => if isAct a c = true then o2 Thk.mk (cHs ex sc (h :: hs)) (kD e) else none
  | _ => none
/-- the two or three names of a pair whose stores are swapped -/
def parT (sc : Scope) (t : List Expr) (e : Expr) (names : List Str) : Bool := match t, e with
  | [.Name x _, .Name y _], .Tuple [_, _] _ _ => names == [x, y] && (match sc.names.lookup x, sc.names.lookup y with | some .local, some .local => true | _, _ => false) && !(x == y)
  | [.Name x _, .Name y _, .Name z _], .Tuple [_, _, _] _ _ => names == [x, y, z] && (match sc.names.lookup x, sc.names.lookup y, sc.names.lookup z with | some .local, some .local, some .local => true | _, _, _ => false) && !(x == y) && !(x == z) && !(y == z)
  | _, _ => false
def isComp : Expr → Bool
  | .ListComp _ _ _ _ => true
  | _ => false
mutual
def cS (G : GI) (N : List Str) (sc : Scope) : Stmt → Option IS
  | .Assign [.Name x _] e _ => if locB sc x = true then o2 (fun i e => IS.set (.v i) e) (slot N x) (cE G N sc e) else none
  | .Assign [.Subscript o i _] e _ => o3 IS.setIx (cE G N sc o) (cE G N sc i) (cE G N sc e)
  | .Assign [.Tuple es j p] e _ => (match swC sc (.Tuple es j p) e with
      | some none => o2 IS.set (cT N sc (.Tuple es j p)) (cE G N sc e)
      | some (some names) => if parT sc es e names = true then o2 IS.set (cT N sc (.Tuple es j p)) (cE G N sc e) else none
      | none => none)
  | .AugAssign (.Name x _) o e _ => if locB sc x = true then (match o with
      | .Add => o2 (IS.aug .Add) (slot N x) (cE G N sc e)
      | .Sub => o2 (IS.aug .Sub) (slot N x) (cE G N sc e)
      | _ => none) else none
  | .Expr e _ => if isComp e = true then none else o1 IS.expr (cE G N sc e)
  | .Return (some e) _ => o1 IS.ret (cE G N sc e)
  | .Return none _ => some .retN
  | .If t a b _ => o3 IS.ife (cE G N sc t) (cSs G N sc a) (cSs G N sc b)
  | .While t b [] _ => o2 IS.whl (cE G N sc t) (cSs G N sc b)
  | .For t it b [] _ => o3 IS.for (cT N sc t) (cE G N sc it) (cSs G N sc b)
  | .Break _ => some .brk
  | .Continue _ => some .cnt
  | .Pass _ => some .pass
  | .Raise (some (.Call (.Name x _) [] [] _)) none _ => o1 IS.raise (excN G.excs sc x)
  | .Try b (h :: hs) [] [] _ => o2 IS.try (cSs G N sc b) (cHs G.excs sc (h :: hs))
  | _ => none
def cSs (G : GI) (N : List Str) (sc : Scope) : List Stmt → Option (List IS)
  | [] => some []
  | s :: r => match cS G N sc s with
    | some x => o1 (List.cons x) (cSs G N sc r)
    | none => some [.expr .no]
end
/-- names by slot: the parameters first -/
def fnScB (N P : List Str) (sc : Scope) : Bool :=
  (match sc.kind with | .function => true | _ => false) && !sc.isCoroutine && !sc.isGenerator && decide N.Nodup && decide (N.take P.length = P) &&
    (P.all fun x => locB sc x) && (sc.names.all fun y => match y.2 with | .free => false | _ => true)
def cFn (G : GI) (N : List Str) (ps : Arguments) (body : List Stmt) (sc : Scope) : Option Fn :=
  if (ps.posonlyargs.isEmpty && ps.vararg.isNone && ps.kwonlyargs.isEmpty && ps.kwarg.isNone && ps.defaults.isEmpty && fnScB N (ps.args.map (·.arg)) sc) = true then
    o1 (fun b => ⟨ps.args.length, N.length, b⟩) (cSs G N sc body) else none
end G
end

section
set_option Elab.async false
set_option linter.all false
set_option maxRecDepth 100000
set_option maxHeartbeats 4000000
/-! GRel: how data lie in the heap of the hand layer. -/
namespace G
open PySem L2

/-- the n-th cell lies at a -/
def At (ι : List (Addr × Bool)) (n : Nat) (a : Addr) : Prop := ∃ w, ι[n]? = some (a, w)
theorem At.inj {ι : List (Addr × Bool)} {n : Nat} {a b : Addr} (h : At ι n a) (h' : At ι n b) : a = b := by
  obtain ⟨w, h⟩ := h
  obtain ⟨w', h'⟩ := h'
  rw [h] at h'; cases h'; rfl
mutual
def Rep (K : PySem.W.Frag) (ι : List (Addr × Bool)) (H : Hp) : D → V → Prop
  | .non, v => v = .non
  | .bl b, v => v = .bl b
  | .int i, v => v = .int i
  | .str x, v => v = .str x
  | .tup xs, v => ∃ a vs, v = .ref a ∧ SqT K H a vs ∧ Reps K ι H xs vs
  | .ref n, v => ∃ a, v = .ref a ∧ At ι n a
def Reps (K : PySem.W.Frag) (ι : List (Addr × Bool)) (H : Hp) : List D → List V → Prop
  | [], vs => vs = []
  | x :: xs, vs => ∃ w ws, vs = w :: ws ∧ Rep K ι H x w ∧ Reps K ι H xs ws
end
def Klit (K : PySem.W.Frag) (a : Addr) (xs : List V) : Prop := ∃ (o : Obj) (its : Array Value) (n : Nat), K.lookup a = some o ∧ o.cls = .type "list" ∧ o.dict = none ∧ o.data = .seq its n ∧ its.size ≤ sizeLine ∧ Vals xs its.toList
def CellRep (K : PySem.W.Frag) (ι : List (Addr × Bool)) (H : Hp) (a : Addr) : Cell → Prop
  | .lst xs => ∃ vs, H a = some (.lst vs) ∧ Reps K ι H xs vs
  | .frz xs => ∃ vs, ((∃ o, H a = some (.frz o (.lst vs))) ∨ Klit K a vs) ∧ Reps K ι H xs vs
  | .dct _ => False
  | .set _ => False
def Mu (x : Cell) : Prop := ∀ xs, x ≠ .frz xs
/-- the tables of code objects that lambdas are put into, with their names -/
class Tables where
  T : List (Addr × Str)
variable [Tables]
structure HRep (K : PySem.W.Frag) (ι : List (Addr × Bool)) (H : Hp) (c : Cells) : Prop where
  len : ι.length = c.length
  inj : ∀ (n m : Nat) (a : Addr), ι[n]? = some (a, true) → ι[m]? = some (a, true) → n = m
  cel : ∀ (n : Nat) (a : Addr) (w : Bool) (x : Cell), ι[n]? = some (a, w) → c[n]? = some x → CellRep K ι H a x ∧ (w = true → Mu x) ∧ (w = false → ¬ Mu x)
  tab : LamX.Tabs Tables.T H
/-- nothing but a table -/
def NT (H : Hp) (b : Addr) : Prop := ∀ o, H b = some o → ∃ ps, o = .tbl ps
theorem nt_none {H : Hp} {b : Addr} (h : H b = none) : NT H b := fun o e => by rw [h] at e; cases e
structure Ext (ι : List (Addr × Bool)) (H : Hp) (ι' : List (Addr × Bool)) (H' : Hp) : Prop where
  pre : ∃ ex, ι' = ι ++ ex ∧ ∀ p ∈ ex, NT H p.1
  tup : ∀ b vs, H b = some (.tup vs) → H' b = some (.tup vs)
  frz : ∀ b o u, H b = some (.frz o u) → H' b = some (.frz o u)
  oth : ∀ b o, H b = some o → (b, true) ∉ ι → (∀ ps, o ≠ .tbl ps) → H' b = some o
  dom : ∀ b, NT H' b → NT H b
section
variable {K : PySem.W.Frag} {ι ι1 ι2 : List (Addr × Bool)} {H H1 H2 : Hp} {c : Cells}
theorem Ext.refl : Ext ι H ι H := ⟨⟨[], by simp, by simp⟩, fun _ _ h => h, fun _ _ _ h => h, fun _ _ h _ _ => h, fun _ h => h⟩
theorem Ext.trans (a : Ext ι H ι1 H1) (b : Ext ι1 H1 ι2 H2) : Ext ι H ι2 H2 := by
  obtain ⟨⟨e1, rfl, n1⟩, t1, f1, o1, d1⟩ := a
  obtain ⟨⟨e2, rfl, n2⟩, t2, f2, o2, d2⟩ := b
  refine ⟨⟨e1 ++ e2, by simp, fun x hx => ?_⟩, fun b vs h => t2 _ _ (t1 _ _ h), fun b o u h => f2 _ _ _ (f1 _ _ _ h), fun b o h hb nt => ?_, fun b h => d1 _ (d2 _ h)⟩
  · rcases List.mem_append.mp hx with h | h
    · exact n1 x h
    · exact d1 _ (n2 x h)
  · refine o2 b o (o1 b o h hb nt) (fun hm => ?_) nt
    rcases List.mem_append.mp hm with z | z
    · exact hb z
    · obtain ⟨ps, z'⟩ := n1 _ z _ h
      exact nt ps z'
theorem sqt_mono {a : Addr} {vs : List V} (h : SqT K H a vs) (e : Ext ι H ι1 H1) : SqT K H1 a vs := by
  rcases h with (h | ⟨o, h⟩) | h
  · exact .inl (.inl (e.tup _ _ h))
  · exact .inl (.inr ⟨o, e.frz _ _ _ h⟩)
  · exact .inr h
theorem Ext.get {n : Nat} {a : Addr × Bool} (e : Ext ι H ι1 H1) (h : ι[n]? = some a) : ι1[n]? = some a := by
  obtain ⟨⟨ex, rfl, _⟩, _⟩ := e
  rw [List.getElem?_append_left (List.getElem?_eq_some_iff.mp h).1]; exact h
mutual
theorem Rep.mono (e : Ext ι H ι1 H1) : ∀ (d : D) (v : V), Rep K ι H d v → Rep K ι1 H1 d v
  | .non, _, h => h
  | .bl _, _, h => h
  | .int _, _, h => h
  | .str _, _, h => h
  | .tup xs, v, h => by
    obtain ⟨a, vs, rfl, hs, hr⟩ := h
    exact ⟨a, vs, rfl, sqt_mono hs e, Reps.mono e xs vs hr⟩
  | .ref n, v, h => by
    obtain ⟨a, rfl, w, h⟩ := h
    exact ⟨a, rfl, w, e.get h⟩
theorem Reps.mono (e : Ext ι H ι1 H1) : ∀ (d : List D) (v : List V), Reps K ι H d v → Reps K ι1 H1 d v
  | [], _, h => h
  | x :: xs, vs, h => by
    obtain ⟨w, ws, rfl, h1, h2⟩ := h
    exact ⟨w, ws, rfl, Rep.mono e x w h1, Reps.mono e xs ws h2⟩
end
mutual
theorem Rep.mono' (ht : ∀ b vs, H b = some (.tup vs) → H1 b = some (.tup vs)) (hf : ∀ b o u, H b = some (.frz o u) → H1 b = some (.frz o u)) : ∀ (d : D) (v : V), Rep K ι H d v → Rep K ι H1 d v
  | .non, _, h => h
  | .bl _, _, h => h
  | .int _, _, h => h
  | .str _, _, h => h
  | .tup xs, v, h => by
    obtain ⟨a, vs, rfl, hs, hr⟩ := h
    refine ⟨a, vs, rfl, ?_, Reps.mono' ht hf xs vs hr⟩
    rcases hs with (hs | ⟨o, hs⟩) | hs
    · exact .inl (.inl (ht _ _ hs))
    · exact .inl (.inr ⟨o, hf _ _ _ hs⟩)
    · exact .inr hs
  | .ref n, v, h => h
theorem Reps.mono' (ht : ∀ b vs, H b = some (.tup vs) → H1 b = some (.tup vs)) (hf : ∀ b o u, H b = some (.frz o u) → H1 b = some (.frz o u)) : ∀ (d : List D) (v : List V), Reps K ι H d v → Reps K ι H1 d v
  | [], _, h => h
  | x :: xs, vs, h => by
    obtain ⟨w, ws, rfl, h1, h2⟩ := h
    exact ⟨w, ws, rfl, Rep.mono' ht hf x w h1, Reps.mono' ht hf xs ws h2⟩
end
mutual
theorem Rep.more (ex : List (Addr × Bool)) : ∀ (d : D) (v : V), Rep K ι H d v → Rep K (ι ++ ex) H d v
  | .non, _, h => h
  | .bl _, _, h => h
  | .int _, _, h => h
  | .str _, _, h => h
  | .tup xs, v, h => by
    obtain ⟨a, vs, rfl, hs, hr⟩ := h
    exact ⟨a, vs, rfl, hs, Reps.more ex xs vs hr⟩
  | .ref n, v, h => by
    obtain ⟨a, rfl, w, h⟩ := h
    exact ⟨a, rfl, w, by rw [List.getElem?_append_left (List.getElem?_eq_some_iff.mp h).1]; exact h⟩
theorem Reps.more (ex : List (Addr × Bool)) : ∀ (d : List D) (v : List V), Reps K ι H d v → Reps K (ι ++ ex) H d v
  | [], _, h => h
  | x :: xs, vs, h => by
    obtain ⟨w, ws, rfl, h1, h2⟩ := h
    exact ⟨w, ws, rfl, Rep.more ex x w h1, Reps.more ex xs ws h2⟩
end
theorem Reps.length : ∀ {xs : List D} {vs : List V}, Reps K ι H xs vs → vs.length = xs.length
  | [], _, h => by cases h; rfl
  | x :: xs, vs, h => by
    obtain ⟨w, ws, rfl, _, h2⟩ := h
    simp [Reps.length h2]
theorem Reps.get : ∀ {xs : List D} {vs : List V} {i : Nat} {x : D}, Reps K ι H xs vs → xs[i]? = some x → ∃ v, vs[i]? = some v ∧ Rep K ι H x v
  | [], _, _, _, _, e => by simp at e
  | y :: xs, vs, 0, x, h, e => by
    obtain ⟨w, ws, rfl, h1, _⟩ := h
    cases e
    exact ⟨w, rfl, h1⟩
  | y :: xs, vs, i + 1, x, h, e => by
    obtain ⟨w, ws, rfl, _, h2⟩ := h
    obtain ⟨v, h3, h4⟩ := Reps.get (i := i) h2 (by simpa using e)
    exact ⟨v, by simpa using h3, h4⟩
theorem Reps.append : ∀ {xs ys : List D} {vs ws : List V}, Reps K ι H xs vs → Reps K ι H ys ws → Reps K ι H (xs ++ ys) (vs ++ ws)
  | [], _, _, _, h, h' => by cases h; exact h'
  | x :: xs, ys, vs, ws, h, h' => by
    obtain ⟨w, us, rfl, h1, h2⟩ := h
    exact ⟨w, us ++ ws, rfl, h1, Reps.append h2 h'⟩
theorem Reps.drop : ∀ {xs : List D} {vs : List V} (n : Nat), Reps K ι H xs vs → Reps K ι H (xs.drop n) (vs.drop n)
  | xs, vs, 0, h => by simpa using h
  | [], vs, n + 1, h => by cases h; rfl
  | x :: xs, vs, n + 1, h => by
    obtain ⟨w, us, rfl, _, h2⟩ := h
    exact Reps.drop n h2
theorem Reps.take : ∀ {xs : List D} {vs : List V} (n : Nat), Reps K ι H xs vs → Reps K ι H (xs.take n) (vs.take n)
  | xs, vs, 0, h => by simp [Reps]
  | [], vs, n + 1, h => by cases h; rfl
  | x :: xs, vs, n + 1, h => by
    obtain ⟨w, us, rfl, h1, h2⟩ := h
    exact ⟨w, us.take n, rfl, h1, Reps.take n h2⟩
theorem Reps.set {x : D} {v : V} (r : Rep K ι H x v) : ∀ {xs : List D} {vs : List V} (n : Nat), Reps K ι H xs vs → Reps K ι H (xs.set n x) (vs.set n v)
  | [], vs, n, h => by cases h; rfl
  | y :: xs, vs, 0, h => by
    obtain ⟨w, us, rfl, h1, h2⟩ := h
    exact ⟨v, us, rfl, r, h2⟩
  | y :: xs, vs, n + 1, h => by
    obtain ⟨w, us, rfl, h1, h2⟩ := h
    exact ⟨w, us.set n v, rfl, h1, Reps.set r n h2⟩
theorem Reps.dropLast {xs : List D} {vs : List V} (h : Reps K ι H xs vs) : Reps K ι H xs.dropLast vs.dropLast := by
  rw [List.dropLast_eq_take, List.dropLast_eq_take, h.length]
  exact h.take _
theorem Reps.one {x : D} {v : V} (r : Rep K ι H x v) : Reps K ι H [x] [v] := ⟨v, [], rfl, r, rfl⟩
theorem Reps.reverse : ∀ {xs : List D} {vs : List V}, Reps K ι H xs vs → Reps K ι H xs.reverse vs.reverse
  | [], _, h => by cases h; rfl
  | x :: xs, vs, h => by
    obtain ⟨w, us, rfl, h1, h2⟩ := h
    rw [List.reverse_cons, List.reverse_cons]
    exact (Reps.reverse h2).append (.one h1)
theorem Reps.rep {xs : List D} {vs : List V} (h : Reps K ι H xs vs) : ∀ n : Nat, Reps K ι H (List.replicate n xs).flatten (List.replicate n vs).flatten
  | 0 => rfl
  | n + 1 => by
    rw [List.replicate_succ, List.replicate_succ, List.flatten_cons, List.flatten_cons]
    exact h.append (Reps.rep h n)
theorem Reps.nil_iff {xs : List D} {vs : List V} (h : Reps K ι H xs vs) : vs = [] ↔ xs = [] := by
  have := h.length
  constructor
  · rintro rfl; exact List.eq_nil_of_length_eq_zero (by simpa using this.symm)
  · rintro rfl; exact List.eq_nil_of_length_eq_zero (by simpa using this)
theorem CellRep.mono {a : Addr} {x : Cell} (h : CellRep K ι H a x) (e : Ext ι H ι1 H1) (he : Mu x → H1 a = H a) : CellRep K ι1 H1 a x := by
  cases x with
  | lst xs =>
    obtain ⟨vs, h1, h2⟩ := h
    exact ⟨vs, (he fun _ q => nomatch q).trans h1, Reps.mono e _ _ h2⟩
  | frz xs =>
    obtain ⟨vs, h1, h2⟩ := h
    refine ⟨vs, ?_, Reps.mono e _ _ h2⟩
    rcases h1 with ⟨o, h1⟩ | h1
    · exact .inl ⟨o, e.frz _ _ _ h1⟩
    · exact .inr h1
  | dct _ => exact h.elim
  | set _ => exact h.elim
theorem CellRep.some {a : Addr} {x : Cell} (h : CellRep K ι H a x) (m : Mu x) : ∃ o, H a = some o ∧ L2.Mut (some o) := by
  cases x with
  | lst xs => obtain ⟨vs, h1, _⟩ := h; exact ⟨_, h1, trivial⟩
  | frz xs => exact absurd rfl (m xs)
  | dct _ => exact h.elim
  | set _ => exact h.elim
theorem CellRep.sq {a : Addr} {xs : List D} {x : Cell} (h : CellRep K ι H a x) (e : x = .lst xs ∨ x = .frz xs) : ∃ vs, SqL K H a vs ∧ Reps K ι H xs vs := by
  rcases e with rfl | rfl
  · obtain ⟨vs, h1, h2⟩ := h; exact ⟨vs, SqL.of h1, h2⟩
  · obtain ⟨vs, h1, h2⟩ := h
    refine ⟨vs, ?_, h2⟩
    rcases h1 with ⟨o, h1⟩ | h1
    · exact .inl (.inr ⟨o, h1⟩)
    · exact .inr h1
theorem HRep.at (h : HRep K ι H c) {n : Nat} {x : Cell} (e : c[n]? = some x) : ∃ a w, ι[n]? = some (a, w) ∧ CellRep K ι H a x ∧ (w = true → Mu x) ∧ (w = false → ¬ Mu x) := by
  have hn : n < ι.length := by rw [h.len]; exact (List.getElem?_eq_some_iff.mp e).1
  have q : ι[n]? = some (ι[n].1, ι[n].2) := List.getElem?_eq_getElem hn
  exact ⟨_, _, q, h.cel n _ _ x q e⟩
theorem HRep.getL (h : HRep K ι H c) {n : Nat} {xs : List D} (e : getL c n = some xs) : ∃ a vs, At ι n a ∧ SqL K H a vs ∧ Reps K ι H xs vs := by
  unfold G.getL at e
  split at e
  · rename_i ys q; cases e
    obtain ⟨a, w, h1, h2, _⟩ := h.at q
    obtain ⟨vs, h3, h4⟩ := h2.sq (.inl rfl)
    exact ⟨a, vs, ⟨w, h1⟩, h3, h4⟩
  · rename_i ys q; cases e
    obtain ⟨a, w, h1, h2, _⟩ := h.at q
    obtain ⟨vs, h3, h4⟩ := h2.sq (.inr rfl)
    exact ⟨a, vs, ⟨w, h1⟩, h3, h4⟩
  · cases e
theorem mu_lst (xs : List D) : Mu (.lst xs) := fun _ z => nomatch z
theorem HRep.lstW (h : HRep K ι H c) {n : Nat} {xs : List D} (e : c[n]? = some (.lst xs)) : ∃ a vs, ι[n]? = some (a, true) ∧ H a = some (.lst vs) ∧ Reps K ι H xs vs := by
  obtain ⟨a, w, h1, ⟨vs, h2, h3⟩, h4, h5⟩ := h.at e
  cases w with
  | true => exact ⟨a, vs, h1, h2, h3⟩
  | false => exact absurd (mu_lst xs) (h5 rfl)
theorem HRep.lst (h : HRep K ι H c) {n : Nat} {xs : List D} (e : c[n]? = some (.lst xs)) : ∃ a vs, At ι n a ∧ H a = some (.lst vs) ∧ Reps K ι H xs vs := by
  obtain ⟨a, vs, h1, h2, h3⟩ := h.lstW e
  exact ⟨a, vs, ⟨true, h1⟩, h2, h3⟩
/-- what is writable is tracked -/
theorem HRep.tracked (h : HRep K ι H c) {a : Addr} (e : (a, true) ∈ ι) : ∃ o, H a = some o ∧ L2.Mut (some o) := by
  obtain ⟨n, hn, e⟩ := List.mem_iff_getElem.mp e
  have hc : n < c.length := by rw [← h.len]; exact hn
  obtain ⟨h1, h2, _⟩ := h.cel n a true c[n] (by rw [List.getElem?_eq_getElem hn, e]) (List.getElem?_eq_getElem hc)
  exact h1.some (h2 rfl)
/-- a new object that is no cell -/
theorem nt_upd {H : Hp} {p b : Addr} {o : HO} (hp : H p = none) (h : NT (L2.upd H p o) b) : NT H b := fun u e => by
  refine h u ?_
  rw [upd_ne (ne_of_none e hp)]; exact e
theorem Ext.new {p : Addr} {o : HO} (hp : H p = none) : Ext ι H ι (upd H p o) :=
  ⟨⟨[], by simp, by simp⟩, fun b vs h => by rw [upd_ne (ne_of_none h hp)]; exact h, fun b _ u h => by rw [upd_ne (ne_of_none h hp)]; exact h, fun b _ h _ _ => by rw [upd_ne (ne_of_none h hp)]; exact h,
    fun b h => nt_upd hp h⟩
/-- what was not there may be written again -/
theorem Ext.upd {p : Addr} {o : HO} (e : Ext ι H ι1 H1) (hp : H p = none) : Ext ι H ι1 (L2.upd H1 p o) :=
  ⟨e.pre, fun b vs h => by rw [upd_ne (ne_of_none h hp)]; exact e.tup b vs h, fun b _ u h => by rw [upd_ne (ne_of_none h hp)]; exact e.frz b _ u h, fun b _ h h1 h2 => by rw [upd_ne (ne_of_none h hp)]; exact e.oth b _ h h1 h2,
    fun b h => by
      by_cases z : b = p
      · rw [z]; exact nt_none hp
      · exact e.dom b fun u q => h u (by rw [upd_ne z]; exact q)⟩
theorem Ext.more {p : Addr} (e : Ext ι H ι1 H1) (hp : H p = none) : Ext ι H (ι1 ++ [(p, true)]) H1 := by
  obtain ⟨⟨ex, rfl, n⟩, a1, a2, a3, a5⟩ := e
  refine ⟨⟨ex ++ [(p, true)], by simp, fun q hq => ?_⟩, a1, a2, a3, a5⟩
  rcases List.mem_append.mp hq with h | h
  · exact n q h
  · rw [List.mem_singleton.mp h]; exact nt_none hp
/-- a tracked list that is no cell stays -/
theorem Ext.stay {p : Addr} {vs : List V} (e : Ext ι H ι1 H1) (hp : H p = some (.lst vs)) (hn : (p, true) ∉ ι) : H1 p = some (.lst vs) ∧ (p, true) ∉ ι1 := by
  refine ⟨e.oth _ _ hp hn (fun ps z => nomatch z), ?_⟩
  obtain ⟨⟨ex, rfl, n⟩, _⟩ := e
  intro hm
  rcases List.mem_append.mp hm with h | h
  · exact hn h
  · obtain ⟨ps, z⟩ := n _ h _ hp
    cases z
theorem tab_new {p : Addr} {o : HO} (hp : H p = none) {P : Addr} {q : Str} (h : LamX.TabS H P q) : LamX.TabS (L2.upd H p o) P q := h.ext fun b u e => by rw [upd_ne (ne_of_none e hp)]; exact e
theorem tab_upd {p : Addr} {o : HO} {vs : List V} (hp : H p = some (.lst vs)) {P : Addr} {q : Str} (h : LamX.TabS H P q) : LamX.TabS (L2.upd H p o) P q := by
  obtain ⟨ps, h1, h2, h3⟩ := h
  refine ⟨ps, by rw [upd_ne (ne_of h1 hp (by intro z; cases z))]; exact h1, h2, fun pos cv hc => ?_⟩
  obtain ⟨c, e1, e2⟩ := h3 pos cv hc
  exact ⟨c, e1, by rw [upd_ne (ne_of e2 hp (by unfold LamX.CodeO; intro z; cases z))]; exact e2⟩
theorem HRep.new (h : HRep K ι H c) {p : Addr} {o : HO} (hp : H p = none) : HRep K ι (upd H p o) c :=
  ⟨h.len, h.inj, fun n a w x h1 h2 => ⟨(h.cel n a w x h1 h2).1.mono (Ext.new hp) fun m => by
    obtain ⟨o, h3, _⟩ := (h.cel n a w x h1 h2).1.some m
    rw [upd_ne (ne_of_none h3 hp)], (h.cel n a w x h1 h2).2⟩, fun p z => tab_new hp (h.tab p z)⟩
/-- an object that is no writable cell is changed; D, the values, no tuple and no frozen thing there -/
theorem HRep.other (h : HRep K ι H c) {p : Addr} {o : HO} {vs : List V} (hp : H p = some (.lst vs)) (hn : (p, true) ∉ ι) : HRep K ι (upd H p o) c ∧ (∀ d v, Rep K ι H d v → Rep K ι (upd H p o) d v) ∧ ∀ d v, Reps K ι H d v → Reps K ι (upd H p o) d v := by
  have et : ∀ b vs, H b = some (.tup vs) → upd H p o b = some (.tup vs) := fun b zs q => by rw [upd_ne (ne_of q hp (by intro z; cases z))]; exact q
  have ef : ∀ b o' u, H b = some (.frz o' u) → upd H p o b = some (.frz o' u) := fun b o u q => by rw [upd_ne (ne_of q hp (by intro z; cases z))]; exact q
  have e2 : ∀ d v, Rep K ι H d v → Rep K ι (upd H p o) d v := fun d v r => Rep.mono' et ef d v r
  have e3 : ∀ d v, Reps K ι H d v → Reps K ι (upd H p o) d v := fun d v r => Reps.mono' et ef d v r
  refine ⟨⟨h.len, h.inj, fun n a w x h1 h2 => ?_, fun p z => tab_upd hp (h.tab p z)⟩, e2, e3⟩
  obtain ⟨k1, k2, k3⟩ := h.cel n a w x h1 h2
  refine ⟨?_, k2, k3⟩
  cases x with
  | lst xs =>
    obtain ⟨us, g1, g2⟩ := k1
    have na : a ≠ p := fun z => by
      cases w with
      | true => exact hn (by rw [← z]; exact List.mem_of_getElem? h1)
      | false => exact k3 rfl (mu_lst xs)
    exact ⟨us, by rw [upd_ne na]; exact g1, e3 _ _ g2⟩
  | frz xs =>
    obtain ⟨us, g1, g2⟩ := k1
    refine ⟨us, ?_, e3 _ _ g2⟩
    rcases g1 with ⟨ob, g1⟩ | g1
    · exact .inl ⟨ob, ef _ _ _ g1⟩
    · exact .inr g1
  | dct _ => exact k1.elim
  | set _ => exact k1.elim
/-- a new cell -/
theorem HRep.alloc (h : HRep K ι H c) {p : Addr} {vs : List V} {xs : List D} (hp : H p = none) (r : Reps K ι H xs vs) :
    Ext ι H (ι ++ [(p, true)]) (upd H p (.lst vs)) ∧ HRep K (ι ++ [(p, true)]) (upd H p (.lst vs)) (c ++ [.lst xs]) ∧ At (ι ++ [(p, true)]) c.length p := by
  have e : Ext ι H (ι ++ [(p, true)]) (upd H p (.lst vs)) := by
    have e0 := Ext.new (ι := ι) (o := .lst vs) hp
    exact ⟨⟨[(p, true)], rfl, fun a ha => by rw [List.mem_singleton.mp ha]; exact nt_none hp⟩, e0.tup, e0.frz, e0.oth, e0.dom⟩
  have hpl : (ι ++ [(p, true)])[c.length]? = some (p, true) := by rw [← h.len]; simp
  have np : (p, true) ∉ ι := fun z => by
    obtain ⟨o, e, _⟩ := h.tracked z
    rw [hp] at e; cases e
  refine ⟨e, ⟨by simp [h.len], fun n m a h1 h2 => ?_, fun n a w x h1 h2 => ?_, fun p z => tab_new hp (h.tab p z)⟩, true, hpl⟩
  · have key : ∀ (n : Nat), (ι ++ [(p, true)])[n]? = some (a, true) → (n = c.length ∧ a = p) ∨ (ι[n]? = some (a, true) ∧ a ≠ p) := fun n h1 => by
      by_cases hn : n < c.length
      · rw [List.getElem?_append_left (by rw [h.len]; exact hn)] at h1
        exact .inr ⟨h1, fun z => np (by rw [← z]; exact List.mem_of_getElem? h1)⟩
      · have hl := (List.getElem?_eq_some_iff.mp h1).1
        have e' : n = c.length := by simp [h.len] at hl; omega
        subst e'
        rw [hpl] at h1
        cases h1
        exact .inl ⟨rfl, rfl⟩
    rcases key n h1 with ⟨e1, e2⟩ | ⟨k1, k2⟩
    · rcases key m h2 with ⟨e3, _⟩ | ⟨_, k4⟩
      · rw [e1, e3]
      · exact absurd e2 k4
    · rcases key m h2 with ⟨_, e4⟩ | ⟨l1, _⟩
      · exact absurd e4 k2
      · exact h.inj n m a k1 l1
  · by_cases hn : n < c.length
    · rw [List.getElem?_append_left (by rw [h.len]; exact hn)] at h1
      rw [List.getElem?_append_left hn] at h2
      refine ⟨(h.cel n a w x h1 h2).1.mono e fun m => ?_, (h.cel n a w x h1 h2).2⟩
      obtain ⟨o, h3, _⟩ := (h.cel n a w x h1 h2).1.some m
      rw [upd_ne (ne_of_none h3 hp)]
    · have hl := (List.getElem?_eq_some_iff.mp h2).1
      have e' : n = c.length := by simp at hl; omega
      subst e'
      rw [hpl] at h1
      cases h1
      rw [List.getElem?_append_right (Nat.le_refl _)] at h2
      simp at h2
      subst h2
      exact ⟨⟨vs, upd_same, Reps.mono e _ _ r⟩, fun _ => mu_lst xs, fun z => nomatch z⟩
/-- a tracked list becomes a cell -/
theorem HRep.adopt (h : HRep K ι H c) {p : Addr} {vs : List V} {xs : List D} (hp : H p = some (.lst vs)) (hn : (p, true) ∉ ι) (r : Reps K ι H xs vs) :
    HRep K (ι ++ [(p, true)]) H (c ++ [.lst xs]) ∧ At (ι ++ [(p, true)]) c.length p := by
  have up : ∀ d v, Rep K ι H d v → Rep K (ι ++ [(p, true)]) H d v := fun d v q => Rep.more _ d v q
  have ups : ∀ d v, Reps K ι H d v → Reps K (ι ++ [(p, true)]) H d v := fun d v q => Reps.more _ d v q
  have hpl : (ι ++ [(p, true)])[c.length]? = some (p, true) := by rw [← h.len]; simp
  refine ⟨⟨by simp [h.len], fun n m a h1 h2 => ?_, fun n a w x h1 h2 => ?_, h.tab⟩, true, hpl⟩
  · have key : ∀ (n : Nat), (ι ++ [(p, true)])[n]? = some (a, true) → (n = c.length ∧ a = p) ∨ (ι[n]? = some (a, true) ∧ a ≠ p) := fun n h1 => by
      by_cases hn' : n < c.length
      · rw [List.getElem?_append_left (by rw [h.len]; exact hn')] at h1
        exact .inr ⟨h1, fun z => hn (by rw [← z]; exact List.mem_of_getElem? h1)⟩
      · have hl := (List.getElem?_eq_some_iff.mp h1).1
        have e' : n = c.length := by simp [h.len] at hl; omega
        subst e'
        rw [hpl] at h1
        cases h1
        exact .inl ⟨rfl, rfl⟩
    rcases key n h1 with ⟨e1, e2⟩ | ⟨k1, k2⟩
    · rcases key m h2 with ⟨e3, _⟩ | ⟨_, k4⟩
      · rw [e1, e3]
      · exact absurd e2 k4
    · rcases key m h2 with ⟨_, e4⟩ | ⟨l1, _⟩
      · exact absurd e4 k2
      · exact h.inj n m a k1 l1
  · by_cases hn' : n < c.length
    · rw [List.getElem?_append_left (by rw [h.len]; exact hn')] at h1
      rw [List.getElem?_append_left hn'] at h2
      obtain ⟨k1, k2, k3⟩ := h.cel n a w x h1 h2
      refine ⟨?_, k2, k3⟩
      cases x with
      | lst xs => obtain ⟨us, g1, g2⟩ := k1; exact ⟨us, g1, ups _ _ g2⟩
      | frz xs => obtain ⟨us, g1, g2⟩ := k1; exact ⟨us, g1, ups _ _ g2⟩
      | dct _ => exact k1.elim
      | set _ => exact k1.elim
    · have hl := (List.getElem?_eq_some_iff.mp h2).1
      have e' : n = c.length := by simp at hl; omega
      subst e'
      rw [hpl] at h1
      cases h1
      rw [List.getElem?_append_right (Nat.le_refl _)] at h2
      simp at h2
      subst h2
      exact ⟨⟨vs, hp, ups _ _ r⟩, fun _ => mu_lst xs, fun z => nomatch z⟩
/-- a cell is changed -/
theorem HRep.write (h : HRep K ι H c) {n : Nat} {a : Addr} {vs ws : List V} {xs ys : List D} (hn : ι[n]? = some (a, true)) (hc : c[n]? = some (.lst xs)) (ha : H a = some (.lst vs)) (r : Reps K ι H ys ws) :
    Ext ι H ι (upd H a (.lst ws)) ∧ HRep K ι (upd H a (.lst ws)) (c.set n (.lst ys)) := by
  have hmem : (a, true) ∈ ι := List.mem_of_getElem? hn
  have e : Ext ι H ι (upd H a (.lst ws)) :=
    ⟨⟨[], by simp, by simp⟩, fun b zs q => by rw [upd_ne (ne_of q ha (by intro z; cases z))]; exact q, fun b o u q => by rw [upd_ne (ne_of q ha (by intro z; cases z))]; exact q,
      fun b o q nb _ => by rw [upd_ne (fun z => nb (by rw [z]; exact hmem))]; exact q, fun b q u eu => by
        by_cases z : b = a
        · obtain ⟨ps, z2⟩ := q (.lst ws) (by rw [z, upd_same])
          cases z2
        · exact q u (by rw [upd_ne z]; exact eu)⟩
  have hlt : n < c.length := (List.getElem?_eq_some_iff.mp hc).1
  refine ⟨e, ⟨by simp [h.len], h.inj, fun i b w x h1 h2 => ?_, fun p z => tab_upd ha (h.tab p z)⟩⟩
  by_cases z : i = n
  · subst z
    rw [hn] at h1; cases h1
    rw [List.getElem?_set_self hlt] at h2
    cases h2
    exact ⟨⟨ws, upd_same, Reps.mono e _ _ r⟩, fun _ => mu_lst ys, fun z => nomatch z⟩
  · rw [List.getElem?_set_ne (Ne.symm z)] at h2
    obtain ⟨k1, k2, k3⟩ := h.cel i b w x h1 h2
    refine ⟨k1.mono e fun m => ?_, k2, k3⟩
    rw [upd_ne]
    rintro rfl
    have hw : w = true := by
      cases w with
      | true => rfl
      | false => exact absurd m (k3 rfl)
    subst hw
    exact z (h.inj i n b h1 hn)
end

/-! ### slots -/
structure SRep (K : PySem.W.Frag) (ι : List (Addr × Bool)) (H : Hp) (σ : St) (ρ : Lo) : Prop where
  len : ρ.length = σ.length
  get : ∀ (i : Nat) (d : D), ρ[i]? = some (some d) → ∃ v, σ[i]? = some (some v) ∧ Rep K ι H d v
section
variable {K : PySem.W.Frag} {ι ι1 ι2 : List (Addr × Bool)} {H H1 H2 : Hp} {c : Cells} {σ : St} {ρ : Lo}
theorem SRep.mono (h : SRep K ι H σ ρ) (e : Ext ι H ι1 H1) : SRep K ι1 H1 σ ρ := ⟨h.len, fun i d q => by
  obtain ⟨v, h1, h2⟩ := h.get i d q
  exact ⟨v, h1, h2.mono e⟩⟩
theorem SRep.set (h : SRep K ι H σ ρ) {i : Nat} {d : D} {v : V} (r : Rep K ι H d v) : SRep K ι H (σ.set i (some v)) (ρ.set i (some d)) := ⟨by simp [h.len], fun j x q => by
  by_cases e : j = i
  · subst e
    have hl : j < ρ.length := by have := (List.getElem?_eq_some_iff.mp q).1; simpa using this
    rw [List.getElem?_set_self hl] at q
    cases q
    exact ⟨v, by rw [List.getElem?_set_self (by rw [← h.len]; exact hl)], r⟩
  · rw [List.getElem?_set_ne (Ne.symm e)] at q
    obtain ⟨w, h1, h2⟩ := h.get j x q
    exact ⟨w, by rw [List.getElem?_set_ne (Ne.symm e)]; exact h1, h2⟩⟩
theorem SRep.unset (h : SRep K ι H σ ρ) {i : Nat} : SRep K ι H (σ.set i none) (ρ.set i none) := ⟨by simp [h.len], fun j x q => by
  by_cases e : j = i
  · subst e
    have hl : j < ρ.length := by have := (List.getElem?_eq_some_iff.mp q).1; simpa using this
    rw [List.getElem?_set_self hl] at q
    cases q
  · rw [List.getElem?_set_ne (Ne.symm e)] at q
    obtain ⟨w, h1, h2⟩ := h.get j x q
    exact ⟨w, by rw [List.getElem?_set_ne (Ne.symm e)]; exact h1, h2⟩⟩
end

theorem SRep.wipe {K : PySem.W.Frag} {ι : List (Addr × Bool)} {H : Hp} {σ : St} {ρ : Lo} (h : SRep K ι H σ ρ) : ∀ (own : List Nat), SRep K ι H (L2.wipe σ own) (G.wipe ρ own)
  | [] => h
  | _ :: r => (SRep.wipe h r).unset
end G
end

section
set_option Elab.async false
set_option linter.all false
set_option maxRecDepth 100000
set_option maxHeartbeats 4000000
/-! GOps: readings; the operations by values. -/
namespace G
open PySem L2
variable [Tables]

/-- what is wanted of an end -/
def Post {α : Type} (K : PySem.W.Frag) (mg : Str → Option Value) (W : WX) (σ : St) (ι : List (Addr × Bool)) (H : Hp) (r : R α) (P : α → Cells → List (Addr × Bool) → Hp → Prop) : Prop := match r with
  | .ok a c => ∀ ι' H', Ext ι H ι' H' → HRep K ι' H' c → P a c ι' H'
  | .ex e c => ∀ ι' H' C, Ext ι H ι' H' → HRep K ι' H' c → mg (Str.ofString e) = some (.ref C) → W (.ref C) none σ H'
  | .no => False
section
variable {α β : Type} {K : PySem.W.Frag} {mg : Str → Option Value} {W : WX} {σ : St} {ι ι1 : List (Addr × Bool)} {H H1 : Hp}
theorem Post.mono {r : R α} {P : α → Cells → List (Addr × Bool) → Hp → Prop} (h : Post K mg W σ ι H r P) (e : Ext ι H ι1 H1) : Post K mg W σ ι1 H1 r P := by
  cases r with
  | ok a c => exact fun ι' H' e1 h1 => h ι' H' (e.trans e1) h1
  | ex x c => exact fun ι' H' C e1 h1 g => h ι' H' C (e.trans e1) h1 g
  | no => exact h
theorem Post.imp {r : R α} {P P' : α → Cells → List (Addr × Bool) → Hp → Prop} (h : Post K mg W σ ι H r P) (k : ∀ a c ι' H', Ext ι H ι' H' → HRep K ι' H' c → P a c ι' H' → P' a c ι' H') : Post K mg W σ ι H r P' := by
  cases r with
  | ok a c => exact fun ι' H' e1 h1 => k _ _ _ _ e1 h1 (h ι' H' e1 h1)
  | ex x c => exact h
  | no => exact h
theorem Post.bind {r : R α} {f : α → Cells → R β} {P : β → Cells → List (Addr × Bool) → Hp → Prop} (h : Post K mg W σ ι H (r.bind f) P) :
    Post K mg W σ ι H r fun a c ι' H' => Post K mg W σ ι' H' (f a c) P := by
  cases r with
  | ok a c => exact fun ι' H' e1 h1 => Post.mono h e1
  | ex x c => exact h
  | no => exact h
theorem Post.ok {a : α} {c : Cells} {P : α → Cells → List (Addr × Bool) → Hp → Prop} (h : Post K mg W σ ι H (.ok a c) P) (hH : HRep K ι H c) : P a c ι H := h ι H .refl hH
end

theorem PE.imp {X : Cx} {e : Expr} {t t' : TE} (h : PE X e t) (k : ∀ σ H Q, t' σ H Q → t σ H Q) : PE X e t' := ⟨fun pins s σ H Q I w => h.run pins s σ H Q I (k _ _ _ w)⟩
theorem PT.imp {X : Cx} {e : Expr} {t t' : TT} (h : PT X e t) (k : ∀ σ H Q, t' σ H Q → t σ H Q) : PT X e t' := ⟨fun pins s σ H Q I w => h.run pins s σ H Q I (k _ _ _ w)⟩
theorem PW.imp {X : Cx} {e : Expr} {t t' : TT} (h : PW X e t) (k : ∀ σ H Q, t' σ H Q → t σ H Q) : PW X e t' := ⟨fun wh pins s σ H Q I w => h.run wh pins s σ H Q I (k _ _ _ w)⟩
theorem PA.imp {X : Cx} {e : List Expr} {t t' : TA} (h : PA X e t) (k : ∀ σ H Q, t' σ H Q → t σ H Q) : PA X e t' := ⟨fun p pins s σ H Q I w => h.run p pins s σ H Q I (k _ _ _ w)⟩
theorem PS.imp {X : Cx} {e : Stmt} {t t' : TS} (h : PS X e t) (k : ∀ D σ H, t' D σ H → t D σ H) : PS X e t' := ⟨fun pins s σ H D I w => h.run pins s σ H D I (k _ _ _ w)⟩
theorem PSs.imp {X : Cx} {e : List Stmt} {t t' : TS} (h : PSs X e t) (k : ∀ D σ H, t' D σ H → t D σ H) : PSs X e t' := ⟨fun pins s σ H D I w => h.run pins s σ H D I (k _ _ _ w)⟩

/-! ### readings -/
section
variable (X : Cx) (Γ : Ctx) (W : WX)
def RE (ie : IE) : TE := fun σ H Q => ∃ ι ρ c, SRep X.K ι H σ ρ ∧ HRep X.K ι H c ∧ Post X.K X.mg W σ ι H (dE Γ ie ρ c) fun d _ ι' H' => ∀ v, Rep X.K ι' H' d v → Q v H'
def RT (ie : IE) : TT := fun σ H Q => ∃ ι ρ c, SRep X.K ι H σ ρ ∧ HRep X.K ι H c ∧ Post X.K X.mg W σ ι H (dE Γ ie ρ c) fun d c' ι' H' => ∃ b, truth c' d = some b ∧ Q b H'
def RA (es : List IE) : TA := fun σ H Q => ∃ ι ρ c, SRep X.K ι H σ ρ ∧ HRep X.K ι H c ∧ Post X.K X.mg W σ ι H (dEs Γ es ρ c) fun ds _ ι' H' => ∀ vs, Reps X.K ι' H' ds vs → Q vs H'
def RO (ie : IE) : TO := fun σ H Q => ∃ ι ρ c, SRep X.K ι H σ ρ ∧ HRep X.K ι H c ∧ Post X.K X.mg W σ ι H (dO Γ ie ρ c) fun o _ ι' H' => Q o H'
def RTs (ifs : List IE) : TT := fun σ H Q => ∃ ι ρ c, SRep X.K ι H σ ρ ∧ HRep X.K ι H c ∧ Post X.K X.mg W σ ι H (dT Γ ifs ρ c) fun b _ ι' H' => Q b H'
/-- what a walk gives: the items xs, as long as the cells ws stand -/
def Walk (K : PySem.W.Frag) (J : It) (ι : List (Addr × Bool)) (H : Hp) (c : Cells) (xs : List D) (ws : List Nat) : Prop :=
  ∀ ι' H' c' (i : Nat), Ext ι H ι' H' → HRep K ι' H' c' → same ws c c' = true →
    (∀ d, xs[i]? = some d → J.go i H' ∧ ∀ x H'', J.yld i H' x H'' → Ext ι' H' ι' H'' ∧ HRep K ι' H'' c' ∧ Rep K ι' H'' d x) ∧ (xs.length ≤ i → J.stop i H')
def RI (it : IE) : TI := fun σ H R => ∃ ι ρ c, SRep X.K ι H σ ρ ∧ HRep X.K ι H c ∧ Post X.K X.mg W σ ι H (dI Γ it ρ c) fun p c' ι' H' => ∀ J, Walk X.K J ι' H' c' p.1 p.2 → R J H'
/-- σ' is σ but for the slots l -/
def Keeps (l : List Nat) (σ σ' : St) : Prop := σ'.length = σ.length ∧ ∀ i, i ∉ l → σ'[i]? = σ[i]?
def RG (t : Tg) : TG := fun v σ H Q => ∃ ι ρ c d ρ', SRep X.K ι H σ ρ ∧ HRep X.K ι H c ∧ Rep X.K ι H d v ∧ asg c t d ρ = some ρ' ∧ ∀ σ', SRep X.K ι H σ' ρ' → Keeps (tgSlots t) σ σ' → Q σ' H
def RGs (ts : List Tg) : TGs := fun vs σ H Q => ∃ ι ρ c ds ρ', SRep X.K ι H σ ρ ∧ HRep X.K ι H c ∧ Reps X.K ι H ds vs ∧ asgs c ts ds ρ = some ρ' ∧ ∀ σ', SRep X.K ι H σ' ρ' → Keeps (tgsSlots ts) σ σ' → Q σ' H
def PostS (K : PySem.W.Frag) (mg : Str → Option Value) (W : WX) (ι : List (Addr × Bool)) (H : Hp) (r : SR) (D : Ends) : Prop := match r with
  | .nx ρ c => ∀ ι' H' σ', Ext ι H ι' H' → HRep K ι' H' c → SRep K ι' H' σ' ρ → D.nx σ' H'
  | .bk ρ c => ∀ ι' H' σ', Ext ι H ι' H' → HRep K ι' H' c → SRep K ι' H' σ' ρ → D.bk σ' H'
  | .ct ρ c => ∀ ι' H' σ', Ext ι H ι' H' → HRep K ι' H' c → SRep K ι' H' σ' ρ → D.ct σ' H'
  | .rt d c => ∀ ι' H' v, Ext ι H ι' H' → HRep K ι' H' c → Rep K ι' H' d v → D.rt v H'
  | .ex e ρ c => ∀ ι' H' σ' C, Ext ι H ι' H' → HRep K ι' H' c → SRep K ι' H' σ' ρ → mg (Str.ofString e) = some (.ref C) → W (.ref C) none σ' H'
  | .no => False
def RS (is : IS) : TS := fun D σ H => ∃ ι ρ c, SRep X.K ι H σ ρ ∧ HRep X.K ι H c ∧ PostS X.K X.mg W ι H (dS Γ is ρ c) D
def RSs (is : List IS) : TS := fun D σ H => ∃ ι ρ c, SRep X.K ι H σ ρ ∧ HRep X.K ι H c ∧ PostS X.K X.mg W ι H (dSs Γ is ρ c) D
end
theorem PostS.mono {K : PySem.W.Frag} {mg : Str → Option Value} {W : WX} {ι ι1 : List (Addr × Bool)} {H H1 : Hp} {r : SR} {D : Ends} (h : PostS K mg W ι H r D) (e : Ext ι H ι1 H1) : PostS K mg W ι1 H1 r D := by
  cases r with
  | nx ρ c => exact fun ι' H' σ' e1 h1 s1 => h ι' H' σ' (e.trans e1) h1 s1
  | bk ρ c => exact fun ι' H' σ' e1 h1 s1 => h ι' H' σ' (e.trans e1) h1 s1
  | ct ρ c => exact fun ι' H' σ' e1 h1 s1 => h ι' H' σ' (e.trans e1) h1 s1
  | rt d c => exact fun ι' H' v e1 h1 r1 => h ι' H' v (e.trans e1) h1 r1
  | ex x ρ c => exact fun ι' H' σ' C e1 h1 s1 g => h ι' H' σ' C (e.trans e1) h1 s1 g
  | no => exact h

/-! ### operations by values -/
def rS (K : PySem.W.Frag) (g : D → D → Cells → R D) : R2 := fun v u H Q => ∃ ι c x y d c', HRep K ι H c ∧ Rep K ι H x v ∧ Rep K ι H y u ∧ g x y c = .ok d c' ∧
  ∀ ι' H' w, Ext ι H ι' H' → HRep K ι' H' c' → Rep K ι' H' d w → Q w H'
def rS1 (K : PySem.W.Frag) (g : List D → Cells → R D) : List V → Hp → VK → Prop := fun vs H Q => ∃ ι c xs d c', HRep K ι H c ∧ Reps K ι H xs vs ∧ g xs c = .ok d c' ∧
  ∀ ι' H' w, Ext ι H ι' H' → HRep K ι' H' c' → Rep K ι' H' d w → Q w H'
theorem rep_fn {K : PySem.W.Frag} {ι : List (Addr × Bool)} {H : Hp} {n : Nat} {a : Addr} {v : V} (h : Rep K ι H (.ref n) v) (e : At ι n a) : v = .ref a := by
  obtain ⟨b, rfl, h⟩ := h
  rw [h.inj e]
section
variable {X : Cx}
theorem lim_eq : lim = sizeLine := by rw [sizeLine_eq]; rfl
/-- a new tuple -/
theorem q_tup {K : PySem.W.Frag} {ι : List (Addr × Bool)} {H : Hp} {c : Cells} {xs : List D} {vs : List V} {p : Addr} {Q : VK} (hH : HRep K ι H c) (r : Reps K ι H xs vs) (hp : H p = none)
    (q : ∀ ι' H' w, Ext ι H ι' H' → HRep K ι' H' c → Rep K ι' H' (.tup xs) w → Q w H') : Q (.ref p) (upd H p (.tup vs)) :=
  q ι _ _ (.new hp) (hH.new hp) ⟨p, vs, rfl, SqT.of upd_same, Reps.mono (.new hp) _ _ r⟩
/-- a new list -/
theorem q_lst {K : PySem.W.Frag} {ι : List (Addr × Bool)} {H : Hp} {c : Cells} {xs : List D} {vs : List V} {p : Addr} {Q : VK} (hH : HRep K ι H c) (r : Reps K ι H xs vs) (hp : H p = none)
    (q : ∀ ι' H' w, Ext ι H ι' H' → HRep K ι' H' (c ++ [.lst xs]) → Rep K ι' H' (.ref c.length) w → Q w H') : Q (.ref p) (upd H p (.lst vs)) := by
  obtain ⟨e, h, g⟩ := hH.alloc hp r
  exact q _ _ _ e h ⟨p, rfl, g⟩

theorem opBin_s (hc : X.A.units + 65 < cLine) (o : Operator) : OpR X (binaryOp o) (rS X.K (opBin o)) := by
  intro pins s σ H v u vv uu Q I rv ru h
  obtain ⟨ι, c, x, y, d, c', hH, rx, ry, e, q⟩ := h
  unfold opBin at e
  split at e
  · cases e; cases rx; cases ry
    exact op_add pins s σ H _ _ vv uu Q I rv ru ⟨_, _, rfl, rfl, q ι H _ .refl hH rfl⟩
  · cases e; cases rx; cases ry
    refine op_add_ib pins s σ H _ _ vv uu Q I rv ru ⟨_, _, rfl, rfl, ?_⟩
    exact q ι H _ .refl hH rfl
  · rename_i a b
    split at e <;> cases e
    rename_i hl
    obtain ⟨p1, vs1, rfl, s1, r1⟩ := rx
    obtain ⟨p2, vs2, rfl, s2, r2⟩ := ry
    refine op_catA pins s σ H _ _ vv uu Q I rv ru ⟨p1, p2, vs1, vs2, rfl, rfl, s1, s2, by rw [r1.length, r2.length, ← lim_eq]; exact hl, fun z => ?_, fun _ z => ?_, fun _ _ p hp => ?_⟩
    · have z' := r1.nil_iff.mp z
      subst z'
      exact q ι H _ .refl hH ⟨p2, vs2, rfl, s2, r2⟩
    · have z' := r2.nil_iff.mp z
      subst z'
      rw [List.append_nil] at q
      exact q ι H _ .refl hH ⟨p1, vs1, rfl, s1, r1⟩
    · exact q_tup hH (r1.append r2) hp q
  · split at e <;> cases e
    rename_i hl
    cases rx; cases ry
    exact op_add_str pins s σ H _ _ vv uu Q I rv ru ⟨_, _, rfl, rfl, by rw [← lim_eq]; exact hl, q ι H _ .refl hH rfl⟩
  · split at e
    · rename_i xs ys h1 h2
      split at e <;> cases e
      rename_i hl
      obtain ⟨a1, vs1, g1, e1, r1⟩ := hH.lst h1
      obtain ⟨a2, vs2, g2, e2, r2⟩ := hH.lst h2
      cases rep_fn rx g1
      cases rep_fn ry g2
      exact op_cat pins s σ H _ _ vv uu Q I rv ru ⟨a1, a2, vs1, vs2, rfl, rfl, e1, e2, by rw [r1.length, r2.length, ← lim_eq]; exact hl, fun p hp => q_lst hH (r1.append r2) hp q⟩
    · cases e
  · cases e; cases rx; cases ry
    exact op_sub pins s σ H _ _ vv uu Q I rv ru ⟨_, _, rfl, rfl, q ι H _ .refl hH rfl⟩
  · cases e; cases rx; cases ry
    cases rv; cases ru
    exact PyProof.Rows.sub_bool ⟨V.int _, H, I.tok _, ⟨_, rfl⟩, q ι H _ .refl hH rfl⟩
  · split at e <;> cases e
    rename_i hm
    cases rx; cases ry
    exact op_mulW pins s σ H _ _ vv uu Q I rv ru ⟨_, _, rfl, rfl, by unfold CMulW; exact of_decide_eq_true hm, q ι H _ .refl hH rfl⟩
  · split at e <;> cases e
    rename_i hm
    obtain ⟨h1, h2, h3, h4⟩ := hm
    obtain ⟨p1, vs1, rfl, s1, r1⟩ := rx
    cases ry
    exact op_repT pins s σ H _ _ vv uu Q I rv ru ⟨p1, _, vs1, rfl, rfl, s1, fun z => h1 (r1.nil_iff.mp z), h2, h3, by rw [r1.length]; exact h4, fun p hp => q_tup hH (r1.rep _) hp q⟩
  · split at e
    · rename_i xs h1
      split at e <;> cases e
      rename_i hm
      obtain ⟨k1, k2, k3⟩ := hm
      obtain ⟨a1, vs1, g1, e1, r1⟩ := hH.lst h1
      cases rep_fn rx g1
      cases ry
      exact op_rep pins s σ H _ _ vv uu Q I rv ru ⟨a1, _, vs1, rfl, rfl, e1, k1, k2, by rw [r1.length, ← lim_eq]; exact k3, fun p hp => q_lst hH (r1.rep _) hp q⟩
    · cases e
  · split at e <;> cases e
    rename_i hm
    cases rx; cases ry
    exact op_fdivW pins s σ H _ _ vv uu Q I rv ru ⟨_, _, rfl, rfl, hm, q ι H _ .refl hH rfl⟩
  · split at e <;> cases e
    rename_i hm
    cases rx; cases ry
    exact op_mod pins s σ H _ _ vv uu Q I rv ru ⟨_, _, rfl, rfl, hm, q ι H _ .refl hH rfl⟩
  · split at e <;> cases e
    rename_i hm
    cases rx; cases ry
    exact op_pow pins s σ H _ _ vv uu Q I rv ru ⟨_, _, rfl, rfl, hm, q ι H _ .refl hH rfl⟩
  · cases e
end
end G
end

section
set_option Elab.async false
set_option linter.all false
set_option maxRecDepth 100000
set_option maxHeartbeats 4000000
/-! GBase: rules that the hand layer lacks. -/
namespace L2
theorem fm_c {α β : Type} {f g : α → Option β} : ∀ {l : List α}, (∀ x ∈ l, f x = g x) → l.filterMap f = l.filterMap g
  | [], _ => rfl
  | a :: l, h => by
    rw [List.filterMap_cons, List.filterMap_cons, h a List.mem_cons_self, fm_c fun x hx => h x (List.mem_cons_of_mem _ hx)]
end L2
namespace HT
open PySem PySem.Spec PyProof.Rows
section
variable {prog : Program} {w : World} {A : Around} {E : Value → Shared → Prop} {s : Shared}
theorem sliceApplied_rev {sl : Addr} {vs : Value} {n : Nat} {Q : Int × Int × Nat → Shared → Prop} (hs : s.heap.IsSliceOf sl .none .none vs) (ps : PySem.IsPart vs (some (-1)))
    (h : Q ((n : Int) - 1, -1, n) s) : wpAny (model prog w) A (Builtin.Slice.sliceApplied (.ref sl) (pure (n : Int))) Q E s := by
  obtain ⟨os, hos, hcs, hds⟩ := id hs
  unfold Builtin.Slice.sliceApplied Builtin.Slice.sliceFields
  refine wpAny_bind (wpAny_bind (wpAny_field hos hds (x := .none) rfl (wpAny_bind (wpAny_field hos hds (x := .none) rfl (wpAny_bind (wpAny_field hos hds (x := vs) rfl (wpAny_pure ?_)))))))
  refine wpAny_bind (slicePart_ ps ?_)
  show wpAny _ _ (if ((-1 : Int) == 0) = true then _ else _) _ _ s
  rw [if_neg (by decide)]
  refine wpAny_bind (slicePart_none (wpAny_bind (slicePart_none (wpAny_bind (wpAny_pure ?_)))))
  have e : Builtin.Slice.sliceAdjust none none (-1) (n : Int) = ((n : Int) - 1, -1) := rfl
  have e2 : Builtin.Slice.slicePlaces ((n : Int) - 1) (-1) (-1) = n := by
    unfold Builtin.Slice.slicePlaces
    have h1 : ¬ ((-1 : Int) > 0) := by decide
    rw [if_neg h1]
    rw [show (- -1 : Int) = 1 by decide, Int.ediv_one]
    split <;> omega
  show wpAny _ _ (match Builtin.Slice.sliceAdjust none none (-1) (n : Int) with | (lo, hi) => pure (lo, (-1 : Int), Builtin.Slice.slicePlaces lo hi (-1))) _ _ s
  rw [e]
  show wpAny _ _ (pure (((n : Int) - 1), (-1 : Int), Builtin.Slice.slicePlaces ((n : Int) - 1) (-1) (-1))) _ _ s
  rw [e2]
  exact wpAny_pure h
theorem pick_rev (xs : Array Value) : ((List.range xs.size).filterMap fun (k : Nat) => xs[((xs.size : Int) - 1 + (k : Int) * -1).toNat]?).toArray = xs.toList.reverse.toArray := by
  have e := PySem.W.krv_pick xs
  unfold slicePick at e
  rw [PySem.W.krv_bounds] at e
  have e' : ((sliceRange ((xs.size : Int) - 1) (-1) (-1)).filterMap (xs[·]?)).toArray = xs.toList.reverse.toArray := e
  rw [PySem.W.krv_sliceRange, List.filterMap_map] at e'
  rw [← e']
  congr 1
  apply L2.fm_c
  intro k hk
  have := List.mem_range.mp hk
  have : ((xs.size : Int) - 1 + (k : Int) * -1).toNat = xs.size - 1 - k := by omega
  rw [this]; rfl
theorem getItem_tuple_rev {t sl : Addr} {items : Array Value} {vs : Value} {Q : Value → Shared → Prop} (ht : IsTup s.heap t items) (hs : s.heap.IsSliceOf sl .none .none vs) (ps : PySem.IsPart vs (some (-1)))
    (h : Q (.ref s.heap.objs.size) { s with heap := s.heap.push { cls := .type "tuple", data := .seq items.toList.reverse.toArray } })
    (hsz : items.size ≤ sizeLine) : wpAny (model prog w) A (getItem (.ref t) (.ref sl)) Q E s := by
  have htake : sizeOk (.seq items.toList.reverse.toArray) := by
    show items.toList.reverse.toArray.size ≤ sizeLine
    rw [List.size_toArray, List.length_reverse, Array.length_toList]
    omega
  obtain ⟨os, hos, hcs, hds⟩ := id hs
  have hTs : s.TypeIs (.ref sl) "slice" := ⟨os, hos, hcs⟩
  unfold getItem
  try with_reducible refine wpAny_holding ?_
  first | refine wpAny_bind (wpAny_pure ?_) | skip
  refine wpAny_bind (wpAny_sequenceKey ht.typeIs (by decide) ?_)
  refine wpAny_bind (wpAny_callSpecial?_slot (name := Str.ofString "__getitem__") ht.typeIs PyProof.Rows.slot_tuple_getitem
    (wpAny_call_entry PyProof.Rows.slot_tuple_getitem ht.typeIs entry_tuple_getitem ?_ (args_tuple_getitem _ _)))
  show wpAny _ _ (Builtin.Tuple.tupleItemsOf (.ref t) >>= _) _ _ s
  refine wpAny_bind (tupleItemsOf_ ht ?_)
  refine wpAny_bind (wpAny_typeOf hTs ?_)
  rw [if_pos (by decide)]
  refine wpAny_bind (sliceApplied_rev hs ps ?_)
  have hno : ¬ ((((items.size : Int) - 1) == 0 && (-1 : Int) == 1 && items.size == items.size) = true) := by
    intro q
    rw [Bool.and_eq_true, Bool.and_eq_true] at q
    exact absurd q.1.2 (by decide)
  show wpAny _ _ (if (((items.size : Int) - 1) == 0 && (-1 : Int) == 1 && items.size == items.size) = true then _ else _) _ _ s
  rw [if_neg hno, pick_rev]
  first
    | exact wpAny_bind (m := Builtin.Tuple.tupleExact _) (wpAny_newObj_type (wpAny_pure ⟨_, rfl, wpAny_pure h⟩) htake)
    | exact wpAny_bind (m := Builtin.Tuple.tupleExact _) (wpAny_newObj_type (wpAny_bind (wpAny_pure (wpAny_pure ⟨_, rfl, wpAny_pure h⟩))) htake)
    | exact wpAny_bind (wpAny_bind (m := Builtin.Tuple.tupleExact _) (wpAny_newObj_type (wpAny_pure (wpAny_pure ⟨_, rfl, wpAny_pure h⟩)) htake))
    | exact wpAny_bind (wpAny_bind (m := Builtin.Tuple.tupleExact _) (wpAny_newObj_type (wpAny_pure ⟨_, rfl, wpAny_pure h⟩) htake))
end
end HT
namespace L2
open PySem PySem.Spec PyProof.Rows
section
variable {X : Cx}
/-- xs[::-1], a list or a tuple -/
def tRevA (K : PySem.W.Frag) (te : TE) : TE := fun σ H Q => te σ H fun x H1 => ∃ a xs, x = .ref a ∧ ((SqL K H1 a xs ∧ ∀ p, H1 p = none → Q (.ref p) (upd H1 p (.lst xs.reverse))) ∨ (SqT K H1 a xs ∧ ∀ p, H1 p = none → Q (.ref p) (upd H1 p (.tup xs.reverse))))
theorem pe_revA {e : Expr} {te : TE} {k : Nat} {p1 p2 p3 pos : Pos} (he : PE X e te) : PE X (.Subscript e (.Slice none none (some (.UnaryOp .USub (.Constant (.int 1) k p1) p2)) p3) pos) (tRevA X.K te) := by
  refine ⟨fun pins s σ H Q I h => ?_⟩
  refine Subscript_ (thn (he.run pins s σ H _ I h) fun v s1 ⟨x, H1, I1, r1, q1⟩ => ?_)
  obtain ⟨a, xs, ex, hq⟩ := q1
  subst ex
  cases r1
  have hst : PO X (some (.UnaryOp .USub (.Constant (.int 1) k p1) p2)) (tPart (tUn (rU fun i => .int (-i)) (tC (.int 1)))) := po_some (pe_un un_neg pe_int)
  refine wpAny_Slice (thn (po_none.run pins s1 σ H1 (fun o H2 => o = none ∧ H2 = H1) I1 ⟨rfl, rfl⟩) fun vl s2 ⟨l, H2, I2, pl, el, e2⟩ => ?_)
  subst el e2
  refine thn (po_none.run pins s2 σ H2 (fun o H3 => o = none ∧ H3 = H2) I2 ⟨rfl, rfl⟩) fun vu s3 ⟨u, H3, I3, pu, eu, e3⟩ => ?_
  subst eu e3
  refine thn (hst.run pins s3 σ H3 (fun o H4 => o = some (-1) ∧ H4 = H3) I3 ⟨1, rfl, -1, rfl, rfl, rfl⟩) fun vs s4 ⟨o, H4, I4, ps, eo, e4⟩ => ?_
  subst eo e4
  have I5 : Inv X pins σ H4 { s4 with heap := s4.heap.push { cls := .type "slice", data := .fields #[vl, vu, vs] } } := I4.kept (t' := s4.toks) fun b ob q => Heap.get?_push_of_some _ q
  show wpAny (model X.prog X.w) X.A (subscriptTail e (.Slice none none (some (.UnaryOp .USub (.Constant (.int 1) k p1) p2)) p3) (.ref a) (.ref s4.heap.objs.size)) (EP X pins σ Q) X.xe { s4 with heap := s4.heap.push { cls := .type "slice", data := .fields #[vl, vu, vs] } }
  rcases hq with ⟨hx, q⟩ | ⟨hx, q⟩
  · obtain ⟨its, r, ht, hz⟩ := I5.list hx
    have hlen := r.length
    refine tail_any (ops := [.ref a, .ref s4.heap.objs.size]) ht.isList.typeIs (PySem.slot_list_getitem.lookup) ?_ (by with_unfolding_all rfl)
    refine wpAny_getItem_list_slice ht.isList (Heap.IsSliceOf.new _ vl vu vs) pl pu ps (by decide) ?_ (by rw [List.size_toArray]; omega)
    rw [PySem.W.krv_pick]
    refine ⟨.ref _, _, I5.laid (t' := s4.toks) (o := .lst xs.reverse) (fun b ob q => Heap.get?_push_of_some _ q) (Nat.le_refl _) ?_, rfl, q _ (I5.hok.fresh (Nat.le_refl _))⟩
    exact ⟨by rw [List.length_reverse]; exact hz, _, 0, r.reverse, Heap.get?_push_size _ rfl⟩
  · obtain ⟨its, r, ht, hz⟩ := I5.tuple hx
    have hlen : its.toArray.size = xs.length := by rw [List.size_toArray]; exact r.length.symm
    cases pl
    cases pu
    refine tail_any (ops := [.ref a, .ref s4.heap.objs.size]) ht.typeIs (PyProof.Rows.slot_tuple_getitem.lookup) ?_ (by with_unfolding_all rfl)
    refine HT.getItem_tuple_rev ht (Heap.IsSliceOf.new _ .none .none vs) ps ?_ (by rw [hlen]; exact hz)
    refine ⟨.ref _, _, I5.laid (t' := s4.toks) (o := .tup xs.reverse) (fun b ob q => Heap.get?_push_of_some _ q) (Nat.le_refl _) ?_, rfl, q _ (I5.hok.fresh (Nat.le_refl _))⟩
    exact ⟨by rw [List.length_reverse]; exact hz, _, r.reverse, IsTup.new _ _⟩
/-- repr(x), x data of any depth -/
def rReprD (K : PySem.W.Frag) : List V → Hp → VK → Prop := fun xs H Q => ∃ (x : V) (d : PyData), xs = [x] ∧ Dp K H x d ∧ SeqAt.shaped d = true ∧ d.showable = true ∧ d.shown.length ≤ sizeLine ∧ Q (.str d.shown) H
theorem call_reprD (hg : X.A.guards = some []) (hu : X.A.units + 66 < cLine) : CallR X (.builtin "repr") (rReprD X.K) := by
  intro pins s σ H xs us Q I r h
  obtain ⟨x, d, rfl, dp, sd, sh, sz, q⟩ := h
  have hlay : d.canLay0 = true ∧ d.depth ≤ 64 := by
    have h0 : (d.canLay0 && decide (d.depth ≤ 64)) = true := sd
    simpa using h0
  cases r with
  | cons ru rn =>
    rename_i u us'
    cases rn
    obtain ⟨as, rd⟩ := Dp.reads I d x u dp ru
    cases d with
    | none => cases dp; cases ru; exact PySem.P.repr_of_none ⟨.str _, H, I.tok _, ⟨_, rfl⟩, q⟩
    | bool b => cases dp; cases ru; exact PySem.P.repr_of_bool ⟨.str _, H, I.tok _, ⟨_, rfl⟩, q⟩
    | int i =>
      cases dp
      obtain ⟨t, rfl⟩ := ru
      exact PySem.P.repr_of_int (by simpa [PyData.showable] using sh) ⟨.str _, H, I.tok _, ⟨_, rfl⟩, q⟩
    | str y =>
      cases dp
      obtain ⟨t, rfl⟩ := ru
      exact PySem.P.repr_of_str ⟨.str _, H, I.tok _, ⟨_, rfl⟩, q⟩ (hsz := sz)
    | list ds =>
      cases dp
      cases ru
      exact repr_of_reads' rd sh (PyData.noDict_hsm (PyData.hasDict_of_canLay _ hlay.1)) hg (by have := hlay.2; omega) (fun _ _ z => z) (fun h' t k kp => ⟨.str _, H, I.kept kp, ⟨_, rfl⟩, q⟩) (hsz := sz)
    | tuple ds =>
      cases dp
      cases ru
      exact repr_of_reads' rd sh (PyData.noDict_hsm (PyData.hasDict_of_canLay _ hlay.1)) hg (by have := hlay.2; omega) (fun _ _ z => z) (fun h' t k kp => ⟨.str _, H, I.kept kp, ⟨_, rfl⟩, q⟩) (hsz := sz)
    | dict _ => cases dp
end
end L2
end

section
set_option Elab.async false
set_option linter.all false
set_option maxRecDepth 100000
set_option maxHeartbeats 4000000
/-! GTop: calls where it may be known that nothing is being shown; the law's own call. -/
namespace G
open PySem PySem.Spec PyProof.Rows L2
/-- a def's promise; b: only where no repr is under way -/
structure FnX (b : Bool) (P : Program) (w : World) (K : PySem.W.Frag) (mg : Str → Option Value) (base : Heap) (CX : CXT) (k : Nat) (f : Addr) (fd : FuncData) (ps : List Str) (sp : Sp) : Prop where
  many : ∀ vs H Q E, sp vs H Q E → vs.length = ps.length
  go : ∀ (A : Around) (out : List Env) (st : Shared) (H : Hp) (as : Args) (us : List Value) (vs : List V) (Q : VK) (E : XK), Room k A → (b = true → A.guards = some []) → Env0 P w K mg base A out st H → BindsTo st fd as (ps.zip us) → Vals vs us →
    sp vs H Q E → codeAny (model P w) A (Code.call (.ref f) as) (CR CX out P w H st Q E) st
section
variable {P : Program} {w : World} {K : PySem.W.Frag} {mg : Str → Option Value} {base : Heap} {CX : CXT} {k : Nat} {f : Addr} {fd : FuncData} {ps : List Str} {sp : Sp}
theorem FnX.plain (F : FnX false P w K mg base CX k f fd ps sp) : FnOk P w K mg base CX k f fd ps sp := ⟨F.many, fun A out st H as us vs Q E r e b v h => F.go A out st H as us vs Q E r nofun e b v h⟩
theorem FnX.any (F : FnX false P w K mg base CX k f fd ps sp) (b : Bool) : FnX b P w K mg base CX k f fd ps sp := ⟨F.many, fun A out st H as us vs Q E r _ e b v h => F.go A out st H as us vs Q E r nofun e b v h⟩
/-- a def by its body -/
theorem FnX.of {b : Bool} {name qual : Str} {pa : Arguments} {body : List Stmt} {sc : Scope} {dV kV doc pm cdv ct oc : Value} {an od : Option Addr} {osl : Array (Option Value)} {N : List Str}
    (lk : K.lookup f = some ⟨oc, od, .func (PySem.W.fnOf name qual pa body sc dV kV doc pm an cdv ct), osl⟩) (hcd : PySem.W.codeIn K cdv qual = true) (S : FnScope N ps sc) (many : ∀ vs H Q E, sp vs H Q E → vs.length = ps.length)
    (hb : ∀ (A : Around) (out : List Env) (st : Shared) (H : Hp) (vs : List V) (Q : VK) (E : XK), Room k (A.deeper (envOfC qual sc st.heap.objs.size f cdv)) → (b = true → A.guards = some []) → sp vs H Q E →
      ∃ t, PSs (cxOf CX P w K mg base N qual sc f cdv A out st H E) body t ∧ t { nx := fun _ H' => Q .non H', rt := Q } (L2.start N vs) H) :
    FnX b P w K mg base CX (k + 1) f (PySem.W.fnOf name qual pa body sc dV kV doc pm an cdv ct) ps sp := by
  refine ⟨many, fun A out st H as us vs Q E room gd env binds rv h => ?_⟩
  have len := many _ _ _ _ h
  have inK : K.In st.heap := env.mod.kin.keeps fun c o z => (env.bs c o z).1
  have kinds : ∀ y ∈ ps.zip us, sc.names.lookup y.1 = some .local ∨ (sc.names.lookup y.1 = some .cell ∧ ((cellsFrom (st.heap.objs.size + 1) sc.names []).lookup y.1).isSome = true) := fun y hy =>
    (S.par y.1 (List.of_mem_zip (a := y.1) (b := y.2) hy).1).imp id fun z => ⟨z, PySem.W.cellsFrom_some _ _ _ (.inl z)⟩
  refine codeAny_call_function room.depth (inK _ _ lk) rfl S.co S.gen rfl (PySem.W.codeRec_of inK hcd) (binds _ _ _ _ (wpAny_newFunctionEnv_cells S.kind kinds fun e he st1 x => ?_))
  subst he
  refine ⟨(env.mod.nolimit.keeps fun c o z => (env.bs c o z).1).keeps x.toInCall.keep, codeAny_func ?_⟩
  obtain ⟨t, run, q⟩ := hb A out st H vs Q E (room.deeper _) gd h
  refine wpAny_mono (run.run [] st1 (L2.start N vs) H _ (inv_start S room.hd env len rv x) q) (fun r st2 hr => ?_) fun _ _ z => z
  match r, hr with
  | .ret u, ⟨v, σ', H', J, rv', q'⟩ => exact ⟨v, H', J.os, J.bare, J.base, J.hok, rv', q'⟩
  | .next, ⟨σ', H', J, q'⟩ => exact ⟨.non, H', J.os, J.bare, J.base, J.hok, rfl, q'⟩
  | .brk, ⟨_, _, _, q'⟩ => exact False.elim q'
  | .cont, ⟨_, _, _, q'⟩ => exact False.elim q'
end
section
variable {X : Cx} {CX : CXT} {b : Bool} {k : Nat} {f : Addr} {fd : FuncData} {ps : List Str} {sp : Sp} {E : L2.St → XK} {x : Str} {p pos : Pos} {e : Expr} {es : List Expr} {t : TA}
theorem run_fnX {pins : List (Addr × Obj)} {σ : L2.St} {H : Hp} {st : Shared} {Q : VK} {us : List Value} {vs : List V} (F : FnX b X.prog X.w X.K X.mg X.base CX k f fd ps sp) (room : Room k X.A) (gd : b = true → X.A.guards = some []) (hb : Binds X.K fd ps [])
    (pass : PassesAt CX X σ (E σ)) (I : Inv X pins σ H st) (rv : Vals vs us) (h : sp vs H Q (E σ)) : wpAny (model X.prog X.w) X.A (call (.ref f) us) (EP X pins σ Q) X.xe st := by
  have hl : us.length = ps.length := rv.length.symm.trans (F.many _ _ _ _ h)
  have bd := hb st us I.kIn (by simpa using hl)
  rw [List.append_nil] at bd
  refine wpAny_call (codeAny_mono (F.go X.A X.stack st H ⟨us, []⟩ us vs Q (E σ) room gd I.env0 bd rv h) fun r st2 hr => ?_)
  match r, hr with
  | .error e, hr => exact pass pins H st e st2 I hr
  | .ok (.ret u), hr => exact I.after hr
  | .ok .next, hr => exact False.elim hr
  | .ok .brk, hr => exact False.elim hr
  | .ok .cont, hr => exact False.elim hr
theorem pe_callX (F : FnX b X.prog X.w X.K X.mg X.base CX k f fd ps sp) (room : Room k X.A) (gd : b = true → X.A.guards = some []) (hg : Gl X x) (hm : X.mg x = some (.ref f)) (hk : PySem.W.keepIn X.K (.ref f) = true) (hb : Binds X.K fd ps [])
    (pass : ∀ σ, PassesAt CX X σ (E σ)) (ha : PA X (e :: es) t) (hdb : (x == ("__debug__" : Str)) = false) (he : starEach (e :: es) X.env = (false, eval e X.env) :: starEach es X.env) (hpl : (backTo pos (starEach es X.env)).any (·.1) = false) :
    PE X (.Call (.Name x p) (e :: es) [] pos) (tCallS sp E t) :=
  ⟨fun pins st σ H Q I h => wpAny_Call_Name_kw (ld_glob I hg hm (PySem.W.callWith_K (h₀ := X.base) I.ok.mod.kin hk (thn (ha.run pos pins st σ H _ I h) fun us st1 ⟨vs, H1, I1, rv, q⟩ => ⟨I1.kIn, run_fnX F room gd hb (pass σ) I1 rv q⟩) he hpl) hdb)⟩
end
/-! ### the law's own call -/
section
variable {P : Program} {w : World} {K : PySem.W.Frag} {mg mb : Str → Option Value} {CX : CXT} {fa a : Addr} {cs : List (Addr × Addr)} {st : Shared} {vs : List Value} {ns : List Int}
/-- what is tracked: the tables, and the script unless the head knows it -/
def topHp (K : PySem.W.Frag) (cs : List (Addr × Addr)) (a : Addr) (vs : List Value) (ns : List Int) : Hp := fun c =>
  if c = a then (if (K.lookup a).isNone = true then some (.frz { cls := .type "list", data := .seq vs.toArray } (.lst (ns.map V.int))) else none)
  else if c ∈ cs.map (·.2) then some (.tbl #[]) else none
theorem topHp_a (h : K.lookup a = none) : topHp K cs a vs ns a = some (.frz { cls := .type "list", data := .seq vs.toArray } (.lst (ns.map V.int))) := by unfold topHp; rw [if_pos rfl, h]; rfl
theorem topHp_t {c : Addr} (n : c ≠ a) (h : c ∈ cs.map (·.2)) : topHp K cs a vs ns c = some (.tbl #[]) := by unfold topHp; rw [if_neg n, if_pos h]
theorem topHp_cases (c : Addr) : topHp K cs a vs ns c = none ∨ (c = a ∧ K.lookup a = none) ∨ (c ≠ a ∧ c ∈ cs.map (·.2)) := by
  unfold topHp
  by_cases h : c = a
  · rw [if_pos h]
    by_cases h2 : (K.lookup a).isNone = true
    · exact .inr (.inl ⟨h, Option.isNone_iff_eq_none.mp h2⟩)
    · rw [if_neg h2]; exact .inl rfl
  · rw [if_neg h]
    by_cases h2 : c ∈ cs.map (·.2)
    · exact .inr (.inr ⟨h, h2⟩)
    · rw [if_neg h2]; exact .inl rfl
theorem call_top (inK : K.In st.heap) (hn : st.heap.Ns mainGlobals mg) (hb : st.heap.Ns builtinsNs mb) (hbb : ∀ x : Str, x ≠ "__name__" → mb x = bootBuiltins x) (lim : st.heap.NoLimit) (gens : st.gens = #[])
    (tab : ∀ p ∈ cs, st.heap.get? p.2 = some { cls := .none, data := .fields #[] }) (tabK : ∀ p ∈ cs, K.lookup p.2 = none) (cod : ∀ p ∈ cs, PySem.W.CodeHd st.heap p.1 p.2)
    (bmain : ∃ (bm : Addr) (ob : Obj), mg "__builtins__" = some (.ref bm) ∧ bm ≠ builtinsNs ∧ st.heap.get? bm = some ob ∧ ob.cls = .type "module" ∧ ob.dict = some builtinsNs ∧ ob.data = .plain)
    (lst : st.heap.get? a = some { cls := .type "list", data := .seq vs.toArray }) (intsA : IntsAre vs ns) (few : ns.length ≤ sizeLine)
    (run : ∀ (base : Heap) (H : Hp), K.In base → base.Ns mainGlobals mg → (∀ p ∈ cs, LamX.TabB base mg p.1 p.2) → (∀ p ∈ cs, H p.2 = some (.tbl #[])) → SqL K H a (ns.map V.int) → Env0 P w K mg base callerA [] st H →
      codeAny (model P w) callerA (.call (.ref fa) ⟨[.ref a], []⟩) (CR CX [] P w H st (fun v _ => v = .bl true) fun _ _ _ => False) st)
    (none_ : ∀ H e st', CX [] H st (fun _ _ _ => False) e st' → False) :
    codeAny (model P w) callerA (.call (.ref fa) ⟨[.ref a], []⟩) (fun r st' => r = .ok (.ret (.bool true)) ∧ OldK st.heap st'.heap ∧ st'.os = st.os ∧ AllBare st'.gens) st := by
  have tabO : ∀ {c : Addr}, c ∈ cs.map (·.2) → st.heap.get? c = some { cls := .none, data := .fields #[] } := fun {c} h => by
    obtain ⟨p, hp, rfl⟩ := List.mem_map.mp h
    exact tab p hp
  have tabM : ∀ {p : Addr × Addr}, p ∈ cs → p.2 ∈ cs.map (·.2) := fun {p} hp => List.mem_map.mpr ⟨p, hp, rfl⟩
  have tabA : ∀ {p : Addr × Addr}, p ∈ cs → p.2 ≠ a := fun {p} hp z => by
    have := tab p hp
    rw [z, lst] at this
    exact absurd (congrArg Obj.data (Option.some.inj this)) (by intro z; cases z)
  let H := topHp K cs a vs ns
  have HT : ∀ p ∈ cs, H p.2 = some (.tbl #[]) := fun p hp => topHp_t (tabA hp) (tabM hp)
  -- an object of another kind is not tracked
  have free : ∀ {c : Addr} {o : Obj}, st.heap.get? c = some o → (∀ us n, o.data ≠ .seq us n) → o.data ≠ .fields #[] → H c = none := fun {c o} e h1 h2 => by
    rcases topHp_cases (K := K) (cs := cs) (a := a) (vs := vs) (ns := ns) c with z | ⟨rfl, _⟩ | ⟨_, z⟩
    · exact z
    · rw [lst] at e; cases e; exact absurd rfl (h1 _ _)
    · rw [tabO z] at e; cases e; exact absurd rfl h2
  have keepB : ∀ {c : Addr} {o : Obj}, st.heap.get? c = some o → H c = none → (hidT st.heap H).get? c = some o := fun e n => hidT_get e n
  have dictB : ∀ {c : Addr} {m : Str → Option Value}, st.heap.Ns c m → (hidT st.heap H).Ns c m := fun {c m} ⟨o, es, ep, e, d, r⟩ =>
    ⟨o, es, ep, keepB e (free e (fun _ _ z => by rw [d] at z; cases z) fun z => by rw [d] at z; cases z), d, r⟩
  have kB : K.In (hidT st.heap H) := fun c o e => keepB (inK c o e) (by
    rcases topHp_cases (K := K) (cs := cs) (a := a) (vs := vs) (ns := ns) c with z | ⟨rfl, z⟩ | ⟨_, z⟩
    · exact z
    · rw [z] at e; cases e
    · obtain ⟨p, hp, rfl⟩ := List.mem_map.mp z
      rw [tabK p hp] at e; cases e)
  have module : L2.Mod K mg (hidT st.heap H) := ⟨kB, dictB hn, ⟨mb, dictB hb, hbb⟩, lim.elim fun mc h => ⟨mc, dictB h.1, h.2⟩⟩
  have tables : ∀ p ∈ cs, LamX.TabB (hidT st.heap H) mg p.1 p.2 := fun p hp => by
    refine ⟨?_, ?_, fun z => ?_⟩
    · obtain ⟨o, us, file, tf, flags, tg, inF, text, tt, g1, g2, g3, rest⟩ := cod p hp
      exact ⟨o, us, file, tf, flags, tg, inF, text, tt, keepB g1 (free g1 (fun _ _ z => by rw [g3] at z; cases z) fun z => by rw [g3] at z; cases z; exact absurd rest.1 (by simp)), g2, g3, rest⟩
    · obtain ⟨bm, ob, g1, g2, g3, g4, g5, g6⟩ := bmain
      refine ⟨bm, ob, g1, g2, fun z => ?_, fun z => ?_, keepB g3 (free g3 (fun _ _ z => by rw [g6] at z; cases z) fun z => by rw [g6] at z; cases z), g4, g5, g6⟩
      · obtain ⟨o, es, ep, e, d, _⟩ := hn
        rw [← z, g3] at e; cases e; rw [g6] at d; cases d
      · have := tab p hp
        rw [← z, g3] at this; cases this; cases g6
    · obtain ⟨o, es, ep, e, d, _⟩ := hn
      rw [z, tab p hp] at e; cases e; cases d
  have lenV := intsA.length
  have hok : HOk P w H st.heap := fun c u z => by
    rcases topHp_cases (K := K) (cs := cs) (a := a) (vs := vs) (ns := ns) c with n | ⟨rfl, n⟩ | ⟨n, m⟩
    · rw [show H c = none from n] at z; cases z
    · rw [show H _ = _ from topHp_a n] at z; cases z
      exact ⟨lst, by rw [List.length_map]; exact few, vs, _, vals_ints intsA, lst⟩
    · rw [show H _ = _ from topHp_t n m] at z; cases z
      exact tabO m
  have sq : SqL K H a (ns.map V.int) := by
    cases q : K.lookup a with
    | none => exact .inl (.inr ⟨_, topHp_a q⟩)
    | some o =>
      have e := inK a o q
      rw [lst] at e; cases e
      exact .inr ⟨_, vs.toArray, _, q, rfl, rfl, rfl, by rw [List.size_toArray, lenV]; exact few, by simpa using vals_ints intsA⟩
  have env : Env0 P w K mg (hidT st.heap H) callerA [] st H := ⟨rfl, module, fun c o e => of_hidT e, Nat.le_of_eq (hidT_size _ _), trivial, fun c h => absurd (show c ∈ ([] : List Addr) from h) (by simp), hok, .of_eq gens⟩
  refine codeAny_mono (run _ H kB (dictB hn) tables HT sq env) fun r st' hr => ?_
  match r, hr with
  | .error e, hr => exact (none_ H e st' hr).elim
  | .ok .next, hr => exact False.elim hr
  | .ok .brk, hr => exact False.elim hr
  | .ok .cont, hr => exact False.elim hr
  | .ok (.ret u), ⟨v, H', os, bare, un, hok', ru, hv⟩ =>
    cases (show v = .bl true from hv)
    cases (show u = Value.bool true from ru)
    have stays : ∀ {c : Addr} {o : Obj}, c ∉ cs.map (·.2) → st.heap.get? c = some o → st'.heap.get? c = some o := fun {c o} nc e => by
      rcases topHp_cases (K := K) (cs := cs) (a := a) (vs := vs) (ns := ns) c with n | ⟨rfl, n⟩ | ⟨_, m⟩
      · exact un.keep c o e n (by intro z; exact absurd (show c ∈ ([] : List Addr) from z) (by simp)) (by simp)
      · rw [lst] at e; cases e
        exact (hok' _ _ (un.frzs _ _ _ (topHp_a n))).1
      · exact absurd m nc
    have tabs' : ∀ {c : Addr}, c ∈ cs.map (·.2) → ∃ more : Array Value, st'.heap.get? c = some { cls := .none, data := .fields more } := fun {c} hc => by
      obtain ⟨p, hp, rfl⟩ := List.mem_map.mp hc
      obtain ⟨more, z⟩ := un.tbls p.2 #[] (HT p hp)
      exact ⟨_, hok' p.2 _ z⟩
    refine ⟨rfl, ⟨fun c o e => ?_, fun c o e => ?_⟩, os, bare⟩
    · by_cases hc : c ∈ cs.map (·.2)
      · obtain ⟨more, hm⟩ := tabs' hc
        obtain ⟨p, hp, rfl⟩ := List.mem_map.mp hc
        have e' := tab p hp
        rw [e] at e'; cases e'
        exact .inr (.inl ⟨((cod p hp).tab e).isCodeTable, rfl, #[], more, rfl, by rw [Array.empty_append]; exact hm⟩)
      · exact .inl (stays hc e)
    · by_cases hc : c ∈ cs.map (·.2)
      · exact (tabs' hc).elim fun m h => ⟨_, h⟩
      · exact ⟨o, stays hc e⟩
end
end G
end

section
set_option Elab.async false
set_option linter.all false
set_option maxRecDepth 100000
set_option maxHeartbeats 4000000
/-! GOps2: comparisons, subscripts, calls of what is built in. -/
namespace G
open PySem L2
variable [Tables]
section
variable {K : PySem.W.Frag} {ι : List (Addr × Bool)} {H : Hp} {c : Cells}
mutual
theorem pyD_ok {f : Nat → Option PyData} (hf : ∀ n d v, f n = some d → Rep K ι H (.ref n) v → Dp K H v d) : ∀ (x : D) (d : PyData) (v : V), pyD f x = some d → Rep K ι H x v → Dp K H v d
  | .non, d, v, h, r => by cases h; cases r; exact .non
  | .bl b, d, v, h, r => by cases h; cases r; exact .bl b
  | .int i, d, v, h, r => by cases h; cases r; exact .int i
  | .str x, d, v, h, r => by cases h; cases r; exact .str x
  | .tup xs, d, v, h, r => by
    unfold pyD at h
    split at h
    · rename_i ys e
      cases h
      obtain ⟨a, vs, rfl, s1, r1⟩ := r
      exact .tup s1 (pyDs_ok hf xs ys vs e r1)
    · cases h
  | .ref n, d, v, h, r => hf n d v h r
theorem pyDs_ok {f : Nat → Option PyData} (hf : ∀ n d v, f n = some d → Rep K ι H (.ref n) v → Dp K H v d) : ∀ (x : List D) (d : List PyData) (v : List V), pyDs f x = some d → Reps K ι H x v → DpAll K H v d
  | [], d, v, h, r => by cases h; cases r; exact .nil
  | x :: xs, d, v, h, r => by
    unfold pyDs at h
    split at h
    · rename_i y ys e1 e2
      cases h
      obtain ⟨w, ws, rfl, r1, r2⟩ := r
      exact .cons (pyD_ok hf x y w e1 r1) (pyDs_ok hf xs ys ws e2 r2)
    · cases h
end
theorem pyR_ok (hH : HRep K ι H c) : ∀ (k n : Nat) (d : PyData) (v : V), pyR c k n = some d → Rep K ι H (.ref n) v → Dp K H v d
  | 0, n, d, v, h, r => by cases h
  | k + 1, n, d, v, h, r => by
    unfold pyR at h
    split at h
    · rename_i xs e
      split at h
      · rename_i ys e2
        cases h
        obtain ⟨a, vs, g, s1, r1⟩ := hH.getL e
        cases rep_fn r g
        exact .lst s1 (pyDs_ok (pyR_ok hH k) xs ys vs e2 r1)
      · cases h
    · cases h
theorem py_ok (hH : HRep K ι H c) {x : D} {d : PyData} {v : V} (h : py c x = some d) (r : Rep K ι H x v) : Dp K H v d ∧ SeqAt.shaped d = true := by
  unfold py at h
  split at h
  · rename_i y e
    split at h <;> cases h
    rename_i hs
    exact ⟨pyD_ok (pyR_ok hH 4) x d v e r, hs⟩
  · cases h
end
section
variable {X : Cx}
theorem obl_ok {o : Option Bool} {c c' : Cells} {d : D} (h : obl o c = .ok d c') : ∃ b, o = some b ∧ d = .bl b ∧ c' = c := by
  unfold obl at h
  split at h
  · cases h; exact ⟨_, rfl, rfl, rfl⟩
  · cases h
theorem opCmp_s (hc : X.A.units + 66 < cLine) (o : CmpOp) : OpR X (compareOp o) (rS X.K (opCmp o)) := by
  intro pins s σ H v u vv uu Q I rv ru h
  obtain ⟨ι, c, x, y, d, c', hH, rx, ry, e, q⟩ := h
  cases o with
  | Eq =>
    obtain ⟨b, e1, rfl, rfl⟩ := obl_ok e
    unfold eqv at e1
    split at e1
    · rename_i p1 p2 h1 h2
      cases e1
      obtain ⟨d1, s1⟩ := py_ok hH h1 rx
      obtain ⟨d2, s2⟩ := py_ok hH h2 ry
      exact op_eqD (by omega) pins s σ H _ _ vv uu Q I rv ru ⟨p1, p2, d1, d2, s1, s2, q ι H _ .refl hH rfl⟩
    · cases e1
  | NotEq =>
    obtain ⟨b, e1, rfl, rfl⟩ := obl_ok e
    unfold eqv at e1
    split at e1
    · rename_i p1 p2 h1 h2
      cases e1
      obtain ⟨d1, s1⟩ := py_ok hH h1 rx
      obtain ⟨d2, s2⟩ := py_ok hH h2 ry
      exact op_neD (by omega) pins s σ H _ _ vv uu Q I rv ru ⟨p1, p2, d1, d2, s1, s2, q ι H _ .refl hH rfl⟩
    · cases e1
  | Lt =>
    unfold opCmp at e
    dsimp only at e
    split at e <;> cases e
    cases rx; cases ry
    exact op_lt pins s σ H _ _ vv uu Q I rv ru ⟨_, _, rfl, rfl, q ι H _ .refl hH rfl⟩
  | LtE =>
    unfold opCmp at e
    dsimp only at e
    split at e <;> cases e
    cases rx; cases ry
    exact op_le pins s σ H _ _ vv uu Q I rv ru ⟨_, _, rfl, rfl, q ι H _ .refl hH rfl⟩
  | Gt =>
    unfold opCmp at e
    dsimp only at e
    split at e <;> cases e
    cases rx; cases ry
    exact op_gt pins s σ H _ _ vv uu Q I rv ru ⟨_, _, rfl, rfl, q ι H _ .refl hH rfl⟩
  | GtE =>
    unfold opCmp at e
    dsimp only at e
    split at e <;> cases e
    cases rx; cases ry
    exact op_ge pins s σ H _ _ vv uu Q I rv ru ⟨_, _, rfl, rfl, q ι H _ .refl hH rfl⟩
  | Is =>
    unfold opCmp at e
    dsimp only at e
    have non : ∀ (x : D) (v : V), Rep X.K ι H x v → decide (v = V.non) = decide (x = D.non) := fun x v r => by
      cases x with
      | non => cases r; rfl
      | bl _ => cases r; rfl
      | int _ => cases r; rfl
      | str _ => cases r; rfl
      | tup _ => obtain ⟨a, vs, rfl, _⟩ := r; rfl
      | ref _ => obtain ⟨a, rfl, _⟩ := r; rfl
    split at e
    · cases e
      cases ry
      exact op_isN pins s σ H _ _ vv uu Q I rv ru ⟨rfl, by rw [non _ _ rx]; exact q ι H _ .refl hH rfl⟩
    · cases e
      cases rx; cases ry
      exact op_is_bl pins s σ H _ _ vv uu Q I rv ru ⟨_, _, rfl, rfl, q ι H _ .refl hH rfl⟩
    · cases e
  | IsNot =>
    unfold opCmp at e
    dsimp only at e
    have non : ∀ (x : D) (v : V), Rep X.K ι H x v → decide (v = V.non) = decide (x = D.non) := fun x v r => by
      cases x with
      | non => cases r; rfl
      | bl _ => cases r; rfl
      | int _ => cases r; rfl
      | str _ => cases r; rfl
      | tup _ => obtain ⟨a, vs, rfl, _⟩ := r; rfl
      | ref _ => obtain ⟨a, rfl, _⟩ := r; rfl
    split at e
    · cases e
      cases ry
      exact op_notN pins s σ H _ _ vv uu Q I rv ru ⟨rfl, by rw [non _ _ rx]; exact q ι H _ .refl hH rfl⟩
    · cases e
      cases rx; cases ry
      exact op_isnot_bl pins s σ H _ _ vv uu Q I rv ru ⟨_, _, rfl, rfl, q ι H _ .refl hH rfl⟩
    · cases e
  | In =>
    obtain ⟨b, e1, rfl, rfl⟩ := obl_ok e
    unfold inD at e1
    split at e1
    · split at e1
      · rename_i a bs h1 h2
        cases e1
        obtain ⟨d1, s1⟩ := py_ok hH h1 rx
        obtain ⟨d2, s2⟩ := py_ok hH h2 ry
        obtain ⟨as, r1⟩ := Dp.reads I a _ vv d1 rv
        obtain ⟨bs', r2⟩ := Dp.reads I (.tuple bs) _ uu d2 ru
        exact SeqAt.in_tuple_reads r2 r1 (SeqAt.canLay_of_shaped s2) (SeqAt.canLay_of_shaped s1) (PyProof.Rows.room_in_shaped s1 (by omega)) ⟨.bl _, H, I, rfl, q ι H _ .refl hH rfl⟩
      · cases e1
    · split at e1
      · split at e1
        · rename_i a bs h1 h2
          cases e1
          obtain ⟨d1, s1⟩ := py_ok hH h1 rx
          obtain ⟨d2, s2⟩ := py_ok hH h2 ry
          exact op_inD (by omega) pins s σ H _ _ vv uu Q I rv ru ⟨a, bs, d1, d2, s1, s2, q ι H _ .refl hH rfl⟩
        · cases e1
      · cases e1
    · cases e1
  | NotIn =>
    obtain ⟨b, e1, rfl, rfl⟩ := obl_ok e
    unfold inD at e1
    split at e1
    · split at e1
      · rename_i a bs h1 h2
        cases e1
        obtain ⟨d1, s1⟩ := py_ok hH h1 rx
        obtain ⟨d2, s2⟩ := py_ok hH h2 ry
        obtain ⟨as, r1⟩ := Dp.reads I a _ vv d1 rv
        obtain ⟨bs', r2⟩ := Dp.reads I (.tuple bs) _ uu d2 ru
        exact SeqAt.notIn_tuple_reads r2 r1 (SeqAt.canLay_of_shaped s2) (SeqAt.canLay_of_shaped s1) (PyProof.Rows.room_in_shaped s1 (by omega)) ⟨.bl _, H, I, rfl, q ι H _ .refl hH rfl⟩
      · cases e1
    · split at e1
      · split at e1
        · rename_i a bs h1 h2
          cases e1
          obtain ⟨d1, s1⟩ := py_ok hH h1 rx
          obtain ⟨d2, s2⟩ := py_ok hH h2 ry
          exact op_notInD (by omega) pins s σ H _ _ vv uu Q I rv ru ⟨a, bs, d1, d2, s1, s2, q ι H _ .refl hH rfl⟩
        · cases e1
      · cases e1
    · cases e1

/-! ### subscripts -/
theorem atI_eq {xs : List D} {vs : List V} {K : PySem.W.Frag} {ι : List (Addr × Bool)} {H : Hp} {i : Int} {d : D} (r : Reps K ι H xs vs) (h : atI xs i = some d) : ∃ v, L2.atI vs i = some v ∧ Rep K ι H d v := by
  unfold atI at h
  obtain ⟨j, h1, h2⟩ := Option.bind_eq_some_iff.mp h
  obtain ⟨v, h3, h4⟩ := r.get h2
  refine ⟨v, ?_, h4⟩
  unfold L2.atI
  rw [r.length]
  exact Option.bind_eq_some_iff.mpr ⟨j, h1, h3⟩
theorem opIx_s : IxR X (rS X.K opIx) := by
  intro value slice pins s σ H v u vv uu Q I rv ru h hpl
  obtain ⟨ι, c, x, y, d, c', hH, rx, ry, e, q⟩ := h
  unfold opIx at e
  split at e
  · split at e <;> cases e
    rename_i h1
    obtain ⟨p1, vs1, rfl, s1, r1⟩ := rx
    cases ry
    obtain ⟨w, h2, h3⟩ := atI_eq r1 h1
    exact ix_tup value slice pins s σ H _ _ vv uu Q I rv ru ⟨p1, vs1, _, w, rfl, rfl, s1, h2, q ι H _ .refl hH h3⟩ hpl
  · split at e
    · rename_i xs g
      split at e <;> cases e
      rename_i h1
      obtain ⟨a, vs, g1, s1, r1⟩ := hH.getL g
      cases rep_fn rx g1
      cases ry
      obtain ⟨w, h2, h3⟩ := atI_eq r1 h1
      exact ix_list value slice pins s σ H _ _ vv uu Q I rv ru ⟨a, vs, _, w, rfl, rfl, s1, h2, q ι H _ .refl hH h3⟩ hpl
    · cases e
  · cases e
theorem sIx_eq (n d : Nat) (o : Option Int) : sIx n d o = HT.sIx n d o := by cases o <;> rfl
theorem Reps.cut {xs : List D} {vs : List V} {K : PySem.W.Frag} {ι : List (Addr × Bool)} {H : Hp} (r : Reps K ι H xs vs) (lo hi : Option Int) : Reps K ι H (cut xs lo hi) (cutV vs lo hi) := by
  unfold G.cut cutV
  rw [r.length, sIx_eq, sIx_eq]
  exact (r.drop _).take _
theorem cut_whole {xs : List D} {lo hi : Option Int} (h : HT.sIx xs.length 0 lo = 0 ∧ HT.sIx xs.length xs.length hi = xs.length) : cut xs lo hi = xs := by
  unfold G.cut
  rw [sIx_eq, sIx_eq, h.1, h.2]
  simp
def rSl (K : PySem.W.Frag) : V → Option Int → Option Int → Hp → VK → Prop := fun v lo hi H Q => ∃ ι c x d c', HRep K ι H c ∧ Rep K ι H x v ∧ opSl x lo hi c = .ok d c' ∧
  ∀ ι' H' w, Ext ι H ι' H' → HRep K ι' H' c' → Rep K ι' H' d w → Q w H'
theorem opSl_s : SlR X (rSl X.K) := by
  intro pins s σ H v vv vl vu lo hi sl Q I rx0 hs pl pu h
  obtain ⟨ι, c, x, d, c', hH, rx, e, q⟩ := h
  unfold opSl at e
  split at e
  · cases e
    obtain ⟨p1, vs1, rfl, s1, r1⟩ := rx
    refine sl_tupA pins s σ H _ vv vl vu lo hi sl Q I rx0 hs pl pu ⟨p1, vs1, rfl, s1, fun z => ?_, fun _ p hp => q_tup hH (r1.cut lo hi) hp q⟩
    rw [r1.length] at z
    rw [cut_whole z] at q
    exact q ι H _ .refl hH ⟨p1, vs1, rfl, s1, r1⟩
  · split at e
    · rename_i xs g
      cases e
      obtain ⟨a, vs, g1, e1, r1⟩ := hH.lst g
      cases rep_fn rx g1
      exact sl_list pins s σ H _ vv vl vu lo hi sl Q I rx0 hs pl pu ⟨a, vs, rfl, SqL.of e1, fun p hp => q_lst hH (r1.cut lo hi) hp q⟩
    · cases e
  · cases e
theorem rep_bls : ∀ {xs : List D} {bs : List Bool} {vs : List V} {K : PySem.W.Frag} {ι : List (Addr × Bool)} {H : Hp}, bls xs = some bs → Reps K ι H xs vs → vs = bs.map V.bl
  | [], _, _, _, _, _, h, r => by cases h; cases r; rfl
  | .bl b :: xs, bs, vs, _, _, _, h, r => by
    obtain ⟨cs, h1, rfl⟩ := Option.map_eq_some_iff.mp (show (bls xs).map (b :: ·) = some bs from h)
    obtain ⟨w, ws, rfl, r1, r2⟩ := r
    cases r1
    rw [rep_bls h1 r2]; rfl
  | .non :: _, _, _, _, _, _, h, _ => by cases h
  | .int _ :: _, _, _, _, _, _, h, _ => by cases h
  | .str _ :: _, _, _, _, _, _, h, _ => by cases h
  | .tup _ :: _, _, _, _, _, _, h, _ => by cases h
  | .ref _ :: _, _, _, _, _, _, h, _ => by cases h
theorem rep_intsOf : ∀ {xs : List D} {bs : List Int} {vs : List V} {K : PySem.W.Frag} {ι : List (Addr × Bool)} {H : Hp}, intsOf xs = some bs → Reps K ι H xs vs → vs = bs.map V.int
  | [], _, _, _, _, _, h, r => by cases h; cases r; rfl
  | .int b :: xs, bs, vs, _, _, _, h, r => by
    obtain ⟨cs, h1, rfl⟩ := Option.map_eq_some_iff.mp (show (intsOf xs).map (b :: ·) = some bs from h)
    obtain ⟨w, ws, rfl, r1, r2⟩ := r
    cases r1
    rw [rep_intsOf h1 r2]; rfl
  | .non :: _, _, _, _, _, _, h, _ => by cases h
  | .bl _ :: _, _, _, _, _, _, h, _ => by cases h
  | .str _ :: _, _, _, _, _, _, h, _ => by cases h
  | .tup _ :: _, _, _, _, _, _, h, _ => by cases h
  | .ref _ :: _, _, _, _, _, _, h, _ => by cases h

/-! ### what is built in -/
def bltVal : Blt → Value
  | .abs => .builtin "abs" | .len => .builtin "len" | .min => .builtin "min" | .max => .builtin "max" | .sum => .builtin "sum" | .all => .builtin "all" | .any => .builtin "any"
  | .sorted => .builtin "sorted" | .repr => .builtin "repr"
  | .int => .type "int" | .tuple => .type "tuple" | .list => .type "list" | .str => .type "str" | .set => .type "set" | .bool => .type "bool" | .dict => .type "dict"
theorem opBlt_s (hc : X.calm = true) (b : Blt) (hrp : b = .repr → X.A.guards = some [] ∧ X.A.units + 66 < cLine) : CallR X (bltVal b) (rS1 X.K (opBlt b)) := by
  intro pins s σ H vs us Q I r h
  obtain ⟨ι, c, xs, d, c', hH, rx, e, q⟩ := h
  unfold opBlt at e
  split at e
  · cases e
    obtain ⟨w, ws, rfl, r1, r2⟩ := rx
    cases r1; cases r2
    exact call_abs pins s σ H _ us Q I r ⟨_, rfl, q ι H _ .refl hH rfl⟩
  · cases e
    obtain ⟨w, ws, rfl, r1, r2⟩ := rx
    cases r1; cases r2
    exact call_int1 pins s σ H _ us Q I r (.inl ⟨_, rfl, q ι H _ .refl hH rfl⟩)
  · cases e
    obtain ⟨w, ws, rfl, r1, r2⟩ := rx
    cases r1; cases r2
    exact call_int1 pins s σ H _ us Q I r (.inr ⟨_, rfl, q ι H _ .refl hH rfl⟩)
  · cases e
    obtain ⟨w, ws, rfl, ⟨p1, vs1, rfl, s1, r1⟩, r2⟩ := rx
    cases r2
    exact call_len_seq pins s σ H _ us Q I r ⟨p1, vs1, rfl, .inr s1, by rw [r1.length]; exact q ι H _ .refl hH rfl⟩
  · split at e <;> cases e
    rename_i hl
    obtain ⟨w, ws, rfl, r1, r2⟩ := rx
    cases r1; cases r2
    exact call_len_str pins s σ H _ us Q I r ⟨_, rfl, by rw [← lim_eq]; exact hl, q ι H _ .refl hH rfl⟩
  · obtain ⟨w, ws, rfl, r1, r2⟩ := rx
    cases r2
    split at e
    · rename_i g
      cases e
      obtain ⟨a, vs, g1, e1, r3⟩ := hH.lst g
      cases rep_fn r1 g1
      exact call_len_seq pins s σ H _ us Q I r ⟨a, vs, rfl, .inl (SqL.of e1), by rw [r3.length]; exact q ι H _ .refl hH rfl⟩
    · rename_i ys g
      cases e
      obtain ⟨a, vs, g1, e1, r3⟩ := hH.getL (show getL c _ = some ys by unfold getL; rw [g])
      cases rep_fn r1 g1
      exact call_len_seq pins s σ H _ us Q I r ⟨a, vs, rfl, .inl e1, by rw [r3.length]; exact q ι H _ .refl hH rfl⟩
    · cases e
  · cases e
    obtain ⟨w, ws, rfl, r1, w2, ws2, rfl, r2, r3⟩ := rx
    cases r1; cases r2; cases r3
    exact call_min2 hc pins s σ H _ us Q I r ⟨_, _, rfl, q ι H _ .refl hH rfl⟩
  · cases e
    obtain ⟨w, ws, rfl, r1, w2, ws2, rfl, r2, r3⟩ := rx
    cases r1; cases r2; cases r3
    exact call_max2 hc pins s σ H _ us Q I r ⟨_, _, rfl, q ι H _ .refl hH rfl⟩
  · split at e
    · rename_i g
      split at e <;> cases e
      rename_i hb
      obtain ⟨w, ws, rfl, r1, r2⟩ := rx
      cases r2
      obtain ⟨a, vs, g1, e1, r3⟩ := hH.lst g
      cases rep_fn r1 g1
      rw [rep_bls hb r3] at e1
      exact cr_all hc pins s σ H _ us Q I r ⟨a, _, rfl, SqL.of e1, q ι H _ .refl hH rfl⟩
    · cases e
  · split at e
    · rename_i g
      split at e <;> cases e
      rename_i hb
      obtain ⟨w, ws, rfl, r1, r2⟩ := rx
      cases r2
      obtain ⟨a, vs, g1, e1, r3⟩ := hH.lst g
      cases rep_fn r1 g1
      rw [rep_bls hb r3] at e1
      exact cr_any hc pins s σ H _ us Q I r ⟨a, _, rfl, SqL.of e1, q ι H _ .refl hH rfl⟩
    · cases e
  · split at e
    · rename_i g
      split at e <;> cases e
      rename_i hb
      obtain ⟨w, ws, rfl, r1, r2⟩ := rx
      cases r2
      obtain ⟨a, vs, g1, e1, r3⟩ := hH.lst g
      cases rep_fn r1 g1
      rw [rep_intsOf hb r3] at e1
      exact cr_sum hc pins s σ H _ us Q I r ⟨a, _, rfl, SqL.of e1, q ι H _ .refl hH rfl⟩
    · cases e
  · split at e
    · rename_i g
      cases e
      obtain ⟨w, ws, rfl, r1, r2⟩ := rx
      cases r2
      obtain ⟨a, vs, g1, e1, r3⟩ := hH.lst g
      cases rep_fn r1 g1
      exact call_tuple_of pins s σ H _ us Q I r ⟨a, vs, rfl, .inl ⟨SqL.of e1, fun p hp => q_tup hH r3 hp q⟩⟩
    · cases e
  · cases e
    obtain ⟨w, ws, rfl, ⟨p1, vs1, rfl, s1, r1⟩, r2⟩ := rx
    cases r2
    exact call_tuple_of pins s σ H _ us Q I r ⟨p1, vs1, rfl, .inr ⟨s1, q ι H _ .refl hH ⟨p1, vs1, rfl, s1, r1⟩⟩⟩
  · split at e
    · rename_i g
      cases e
      obtain ⟨w, ws, rfl, r1, r2⟩ := rx
      cases r2
      obtain ⟨a, vs, g1, e1, r3⟩ := hH.lst g
      cases rep_fn r1 g1
      exact call_list_of pins s σ H _ us Q I r ⟨a, vs, rfl, .inl (SqL.of e1), fun p hp => q_lst hH r3 hp q⟩
    · rename_i ys g
      cases e
      obtain ⟨w, ws, rfl, r1, r2⟩ := rx
      cases r2
      obtain ⟨a, vs, g1, e1, r3⟩ := hH.getL (show getL c _ = some ys by unfold getL; rw [g])
      cases rep_fn r1 g1
      exact call_list_of pins s σ H _ us Q I r ⟨a, vs, rfl, .inl e1, fun p hp => q_lst hH r3 hp q⟩
    · cases e
  · cases e
    obtain ⟨w, ws, rfl, ⟨p1, vs1, rfl, s1, r1⟩, r2⟩ := rx
    cases r2
    exact call_list_of pins s σ H _ us Q I r ⟨p1, vs1, rfl, .inr s1, fun p hp => q_lst hH r1 hp q⟩
  · split at e
    · rename_i pd hpd
      split at e <;> cases e
      rename_i hz
      obtain ⟨w, ws, rfl, r1, r2⟩ := rx
      cases r2
      obtain ⟨d1, s1⟩ := py_ok hH hpd r1
      obtain ⟨g1, g2⟩ := hrp rfl
      exact call_reprD g1 g2 pins s σ H _ us Q I r ⟨_, pd, rfl, d1, s1, hz.1, by rw [← lim_eq]; exact hz.2, q ι H _ .refl hH rfl⟩
    · cases e
  · cases e
/-- truth -/
theorem truth_ok {ι : List (Addr × Bool)} {H : Hp} {c : Cells} {x : D} {v : V} {b : Bool} (hH : HRep X.K ι H c) (r : Rep X.K ι H x v) (h : truth c x = some b) : TruV X.K v H b := by
  have emp : ∀ {xs : List D} {vs : List V}, Reps X.K ι H xs vs → (!xs.isEmpty) = !vs.isEmpty := fun {xs vs} r => by
    have := r.nil_iff
    cases xs <;> cases vs <;> simp_all
  cases x with
  | non => cases r; cases h; rfl
  | bl y => cases r; cases h; rfl
  | int i => cases r; cases h; rfl
  | str y =>
    cases r
    unfold truth at h
    dsimp only at h
    split at h <;> cases h
    rename_i hl
    exact ⟨by rw [← lim_eq]; exact hl, rfl⟩
  | tup xs =>
    obtain ⟨p1, vs1, rfl, s1, r1⟩ := r
    cases h
    exact .inr (.inl ⟨vs1, s1, emp r1⟩)
  | ref n =>
    unfold truth at h
    dsimp only at h
    split at h
    · rename_i g
      cases h
      obtain ⟨a, vs, g1, e1, r3⟩ := hH.lst g
      cases rep_fn r g1
      exact .inl ⟨vs, SqL.of e1, emp r3⟩
    · rename_i ys g
      cases h
      obtain ⟨a, vs, g1, e1, r3⟩ := hH.getL (show getL c _ = some ys by unfold getL; rw [g])
      cases rep_fn r g1
      exact .inl ⟨vs, e1, emp r3⟩
    · rename_i g
      obtain ⟨a, w, _, z, _⟩ := hH.at g
      exact z.elim
    · rename_i g
      obtain ⟨a, w, _, z, _⟩ := hH.at g
      exact z.elim
    · cases h
end
end G
end

section
set_option Elab.async false
set_option linter.all false
set_option maxRecDepth 100000
set_option maxHeartbeats 4000000
set_option autoImplicit false
/-! GExpr: expressions do what the evaluator says. -/
namespace G
open PySem L2
variable [Tables]

/-- a def's promise: what the evaluator's call gives -/
def spOf (K : PySem.W.Frag) (mg : Str → Option Value) (call : String → List D → Cells → R D) (f : String) : Sp := fun vs H Q E => ∃ ι c ds, HRep K ι H c ∧ Reps K ι H ds vs ∧
  Post K mg (fun cls d _ H' => E cls d H') [] ι H (call f ds c) fun d _ ι' H' => ∀ v, Rep K ι' H' d v → Q v H'
/-- the def f stands there and keeps its promise -/
def FnHas (b : Bool) (P : Program) (w : World) (K : PySem.W.Frag) (mg : Str → Option Value) (base : Heap) (call : String → List D → Cells → R D) (k : Nat) (f : String) : Prop :=
  ∃ (a : Addr) (fd : FuncData) (ps : List Str), mg (Str.ofString f) = some (.ref a) ∧ PySem.W.keepIn K (.ref a) = true ∧ Binds K fd ps [] ∧ FnX b P w K mg base (L2.CX P w) k a fd ps (spOf K mg call f)
/-- the own exceptions: siblings -/
structure ExcOk (K : PySem.W.Frag) (mg : Str → Option Value) (excs : List String) : Prop where
  cls : ∀ x ∈ excs, ∃ C : Addr, mg (Str.ofString x) = some (.ref C)
  one : ∀ x ∈ excs, ∀ y ∈ excs, ∀ C C' : Addr, mg (Str.ofString x) = some (.ref C) → mg (Str.ofString y) = some (.ref C') → PySem.W.exmOne K (.ref C) (.ref C') = some (decide (x = y))
  own : ∀ x ∈ excs, ∀ C : Addr, mg (Str.ofString x) = some (.ref C) → ∃ (B newId initId : String) (bmB : List Value), ExcBaseFacts B newId initId bmB ∧ PySem.W.excIn K C bmB newId = true ∧ PySem.W.keepIn K (.ref C) = true ∧
    PySem.W.subIn K (.ref C) (.type "BaseException") = some true ∧ PySem.W.typeIn K (.ref C) = some (.type "type")
/-- a def that calls what it gets and tells how that ended -/
def ThkHas (K : PySem.W.Frag) (mg : Str → Option Value) (ex : List String) (f : String) (t : Thk) : Prop :=
  ∃ (ga : Addr) (a : Str) (pg : Arguments) (bg : List Stmt) (sg : Scope) (dV kV doc pm cdv ct oc : Value) (an od : Option Addr) (osl : Array (Option Value)) (Ng : List Str), mg (Str.ofString f) = some (.ref ga) ∧ PySem.W.keepIn K (.ref ga) = true ∧
    K.lookup ga = some ⟨oc, od, .func (PySem.W.fnOf (Str.ofString f) (Str.ofString f) pg bg sg dV kV doc pm an cdv ct), osl⟩ ∧ PySem.W.codeIn K cdv (Str.ofString f) = true ∧ L2.Binds K (PySem.W.fnOf (Str.ofString f) (Str.ofString f) pg bg sg dV kV doc pm an cdv ct) [a] [] ∧
    FnScope Ng [a] sg ∧ Ng[0]? = some a ∧ plainN a = true ∧ cThk ex sg a bg = some t
/-- the place of lambdas -/
def Deep (X : Cx) (k : Nat) : Prop := Room (k + 2) X.A ∧ ∃ c P : Addr, X.env.code = .ref c ∧ LamX.TabB X.base X.mg c P ∧ (P, X.env.qual ++ "<lambda>") ∈ Tables.T ∧ ∀ p ∈ Tables.T, p.1 = P → p.2 = X.env.qual ++ "<lambda>"
structure Ok (X : Cx) (g : GI) (N : List Str) (sc : Scope) (Γ : Ctx) (W : WX) (k : Nat) : Prop where
  hN : X.N = N
  nd : N.Nodup
  hsc : X.env.scope = sc
  calm : X.calm = true
  tk : Takes X W
  pass : PassesOwn (model X.prog X.w) X.A X.env X.xe
  room : Room k X.A
  cst : ∀ x d, lookC g.consts x = some d → ∃ u v, X.mg x = some u ∧ RelV v u ∧ ∀ ι H, Rep X.K ι H d v
  blt : ∀ x b, look bltNames x = some b → X.mg x = none
  fns : ∀ f ∈ g.fns, FnHas g.gd X.prog X.w X.K X.mg X.base Γ.call k f
  pls : ∀ f ∈ g.pl, FnHas false X.prog X.w X.K X.mg X.base Γ.call k f
  gds : g.gd = true → X.A.guards = some []
  exc : ExcOk X.K X.mg g.excs
  hex : Γ.excs = g.excs
  thks : ∀ f ∈ g.thks, ∃ t, Γ.thks.lookup f = some t ∧ ThkHas X.K X.mg g.excs f t
  deep : g.lam = true → Deep X k
/-- the targets of a scope may be stored -/
structure TOk (X : Cx) (N : List Str) (sct : Scope) : Prop where
  hN : X.N = N
  nd : N.Nodup
  calm : X.calm = true
  loc : ∀ x, locB sct x = true → L2.Loc X.env.scope x ∧ (X.fn x = true ∨ X.env.scope.names.lookup x = some .local)
/-! ### small facts of the checks -/
theorem slot_get {N : List Str} {x : Str} {i : Nat} (h : slot N x = some i) : N[i]? = some x := by
  unfold slot at h
  obtain ⟨hi, h1, _⟩ := List.findIdx?_eq_some_iff_getElem.mp h
  rw [List.getElem?_eq_getElem hi, beq_iff_eq.mp h1]
theorem look_get {l : List String} {x : Str} {s : String} (h : look l x = some s) : Str.ofString s = x ∧ s ∈ l := by
  unfold look at h
  exact ⟨beq_iff_eq.mp (List.find?_some (p := fun s => Str.ofString s == x) h), List.mem_of_find?_eq_some h⟩
theorem vis_of {sc : Scope} {x : Str} (h : visB sc x = true) : Vis sc x := by
  unfold visB at h
  unfold Vis
  split at h <;> first | (rename_i e; simp [e]) | cases h
theorem loc_of {sc : Scope} {x : Str} (h : locB sc x = true) : L2.Loc sc x := by
  unfold locB at h
  unfold L2.Loc
  split at h <;> first | (rename_i e; simp [e]) | cases h
theorem gl_of {X : Cx} {x : Str} (h : glB X.env.scope x = true) : Gl X x := by
  unfold glB at h
  show X.env.scope.names.lookup x = _
  split at h <;> first | assumption | cases h
theorem plain_dbg {x : Str} (h : plainN x = true) : (x == ("__debug__" : Str)) = false := by
  unfold plainN at h
  simp only [Bool.and_eq_true, Bool.not_eq_true'] at h
  exact h.1.1.1
theorem plain_cd {x : Str} (h : plainN x = true) : (x == ("__classdict__" : Str)) = false := by
  unfold plainN at h
  simp only [Bool.and_eq_true, Bool.not_eq_true'] at h
  exact h.1.1.2
theorem plain_super {x : Str} (h : plainN x = true) : (x == ("super" : Str)) = false := by
  unfold plainN at h
  simp only [Bool.and_eq_true, Bool.not_eq_true'] at h
  exact h.1.2
theorem plain_name {x : Str} (h : plainN x = true) : x ≠ "__name__" := by
  unfold plainN at h
  simp only [Bool.and_eq_true, Bool.not_eq_true'] at h
  exact fun e => by rw [e] at h; simp at h

/-! ### names, constants -/
section
variable {X : Cx} {g : GI} {N : List Str} {sc : Scope} {Γ : Ctx} {W : WX} {k : Nat} {pos : Pos}
theorem re_k {e : Expr} {d : D} {v : V} (h : PE X e (tC v)) (r : ∀ ι H, Rep X.K ι H d v) : PE X e (RE X Γ W (.k d)) :=
  PE.imp h fun σ H Q ⟨ι, ρ, c, hσ, hH, hp⟩ => by
    unfold dE at hp
    exact Post.ok hp hH v (r ι H)
theorem re_name (ok : Ok X g N sc Γ W k) {x : Str} {ie : IE} (h : cN g N sc x = some ie) (hx : X.env.scope = sc) : PE X (.Name x pos) (RE X Γ W ie) := by
  have hsc := ok.hsc
  unfold cN at h
  split at h
  · rename_i hp
    split at h
    · rename_i hv
      obtain ⟨i, e, rfl⟩ := o1_some h
      have hN : X.N[i]? = some x := by rw [ok.hN]; exact slot_get e
      refine PE.imp (pe_var hN (by rw [hsc]; exact vis_of hv) (plain_dbg hp) (plain_cd hp)) fun σ H Q ⟨ι, ρ, c, hσ, hH, hp⟩ => ?_
      unfold dE at hp
      split at hp
      · rename_i d q
        obtain ⟨v, h1, h2⟩ := hσ.get i d q
        exact ⟨v, h1, Post.ok hp hH v h2⟩
      · exact hp.elim
    · split at h
      · rename_i hg
        split at h
        · rename_i d q
          cases h
          obtain ⟨u, v, h1, h2, h3⟩ := ok.cst x d q
          exact re_k (pe_glob (gl_of (by rw [hsc]; exact hg)) h1 h2 (plain_dbg hp)) h3
        · obtain ⟨t, e, rfl⟩ := o1_some h
          exact ⟨fun pins s σ H Q I ⟨ι, ρ, c, hσ, hH, hp⟩ => by unfold dE at hp; exact hp.elim⟩
      · cases h
  · cases h
theorem re_const {c : Const} {j : Nat} {ie : IE} (h : cK c = some ie) : PE X (.Constant c j pos) (RE X Γ W ie) := by
  cases c with
  | none => cases h; exact re_k pe_non fun _ _ => rfl
  | bool b => cases h; exact re_k pe_bl fun _ _ => rfl
  | int i => cases h; exact re_k pe_int fun _ _ => rfl
  | str x => cases h; exact re_k pe_str fun _ _ => rfl
  | _ => cases h

/-! ### operators -/
variable {a b e : Expr} {a' b' e' : IE}
theorem noex_bin {o : Operator} {x y : D} {c c' : Cells} {q : String} : opBin o x y c ≠ .ex q c' := by
  unfold opBin
  intro h
  split at h <;> (try split at h) <;> (try split at h) <;> cases h
theorem obl_noex {o : Option Bool} {c c' : Cells} {q : String} : obl o c ≠ .ex q c' := by
  unfold obl; intro h; split at h <;> cases h
theorem noex_cmp {o : CmpOp} {x y : D} {c c' : Cells} {q : String} : opCmp o x y c ≠ .ex q c' := by
  unfold opCmp
  intro h
  cases o <;> dsimp only at h <;> first | exact obl_noex h | (split at h <;> cases h)
theorem noex_ix {x y : D} {c c' : Cells} {q : String} : opIx x y c ≠ .ex q c' := by
  unfold opIx
  intro h
  split at h <;> (try split at h) <;> (try split at h) <;> cases h
theorem noex_sl {x : D} {l u : Option Int} {c c' : Cells} {q : String} : opSl x l u c ≠ .ex q c' := by
  unfold opSl
  intro h
  split at h <;> (try split at h) <;> cases h
theorem noex_blt {b : Blt} {xs : List D} {c c' : Cells} {q : String} : opBlt b xs c ≠ .ex q c' := by
  unfold opBlt
  intro h
  split at h <;> (try split at h) <;> (try split at h) <;> cases h
theorem noex_meth {b : Me} {x : D} {xs : List D} {c c' : Cells} {q : String} : opMeth b x xs c ≠ .ex q c' := by
  unfold opMeth
  intro h
  split at h <;> (try split at h) <;> (try split at h) <;> cases h
/-- two expressions, then an operation that raises nothing -/
theorem two_of {t : TE} {f : D → D → Cells → R D} {r : R2} (hr : ∀ v u H Q, rS X.K f v u H Q → r v u H Q) (nx : ∀ x y c q c', f x y c ≠ .ex q c')
    (h : PE X e (tOp r (RE X Γ W a') (RE X Γ W b'))) (he : ∀ ρ c, dE Γ e' ρ c = (dE Γ a' ρ c).bind fun x c1 => (dE Γ b' ρ c1).bind fun y c2 => f x y c2) : PE X e (RE X Γ W e') := by
  refine PE.imp h fun σ H Q ⟨ι, ρ, c, hσ, hH, hp⟩ => ?_
  rw [he] at hp
  refine ⟨ι, ρ, c, hσ, hH, (Post.bind hp).imp fun x c1 ι1 H1 e1 h1 hp1 v rv => ⟨ι1, ρ, c1, hσ.mono e1, h1, (Post.bind hp1).imp fun y c2 ι2 H2 e2 h2 hp2 u ru => ?_⟩⟩
  cases q : f x y c2 with
  | ok d c3 =>
    rw [q] at hp2
    exact hr _ _ _ _ ⟨ι2, c2, x, y, d, c3, h2, rv.mono e2, ru, q, fun ι' H' w e3 h3 rw' => hp2 ι' H' e3 h3 w rw'⟩
  | ex z c3 => exact absurd q (nx _ _ _ _ _)
  | no => rw [q] at hp2; exact hp2.elim
theorem re_bin (ok : Ok X g N sc Γ W k) {o : Operator} (ha : PE X a (RE X Γ W a')) (hb : PE X b (RE X Γ W b')) : PE X (.BinOp a o b pos) (RE X Γ W (.bin o a' b')) :=
  two_of (t := RE X Γ W a') (fun _ _ _ _ h => h) (fun _ _ _ _ _ => noex_bin) (pe_op (opBin_s (by have := ok.room.un; omega) o) ha hb) fun ρ c => by rw [dE]
theorem re_cmp (ok : Ok X g N sc Γ W k) {o : CmpOp} (hm : behindInMarks o b = false) (ha : PE X a (RE X Γ W a')) (hb : PE X b (RE X Γ W b')) : PE X (.Compare a [o] [b] pos) (RE X Γ W (.cmp o a' b')) :=
  two_of (t := RE X Γ W a') (fun _ _ _ _ h => h) (fun _ _ _ _ _ => noex_cmp) (pe_cmpR (opCmp_s (by have := ok.room.un; omega) o) ha hb hm) fun ρ c => by rw [dE]
theorem re_ix (hb' : PlainIx b) (ha : PE X a (RE X Γ W a')) (hb : PE X b (RE X Γ W b')) : PE X (.Subscript a b pos) (RE X Γ W (.ix a' b')) :=
  two_of (t := RE X Γ W a') (fun _ _ _ _ h => h) (fun _ _ _ _ _ => noex_ix) (pe_ix opIx_s ha hb hb') fun ρ c => by rw [dE]
theorem re_neg (ha : PE X a (RE X Γ W a')) : PE X (.UnaryOp .USub a pos) (RE X Γ W (.neg a')) := by
  refine PE.imp (pe_un un_neg ha) fun σ H Q ⟨ι, ρ, c, hσ, hH, hp⟩ => ?_
  unfold dE at hp
  refine ⟨ι, ρ, c, hσ, hH, (Post.bind hp).imp fun x c1 ι1 H1 e1 h1 hp1 v rv => ?_⟩
  split at hp1
  · cases rv
    exact ⟨_, rfl, Post.ok hp1 h1 _ rfl⟩
  · exact hp1.elim
theorem re_not (ha : PE X a (RE X Γ W a')) : PE X (.UnaryOp .Not a pos) (RE X Γ W (.not a')) := by
  refine PE.imp (pe_notT ha) fun σ H Q ⟨ι, ρ, c, hσ, hH, hp⟩ => ?_
  unfold dE at hp
  refine ⟨ι, ρ, c, hσ, hH, (Post.bind hp).imp fun x c1 ι1 H1 e1 h1 hp1 v rv => ?_⟩
  split at hp1
  · rename_i b q
    exact ⟨b, truth_ok h1 rv q, Post.ok hp1 h1 _ rfl⟩
  · exact hp1.elim
theorem re_and {rest : List Expr} (ha : PE X a (RE X Γ W a')) (hb : PE X (.BoolOp .And (b :: rest) pos) (RE X Γ W b')) : PE X (.BoolOp .And (a :: b :: rest) pos) (RE X Γ W (.and a' b')) := by
  refine PE.imp (pe_andT ha hb) fun σ H Q ⟨ι, ρ, c, hσ, hH, hp⟩ => ?_
  unfold dE at hp
  refine ⟨ι, ρ, c, hσ, hH, (Post.bind hp).imp fun x c1 ι1 H1 e1 h1 hp1 v rv => ?_⟩
  split at hp1
  · rename_i q
    refine ⟨true, truth_ok h1 rv q, ?_⟩
    refine iteT ?_
    exact ⟨ι1, ρ, c1, hσ.mono e1, h1, hp1⟩
  · rename_i q
    refine ⟨false, truth_ok h1 rv q, ?_⟩
    refine iteF ?_
    exact Post.ok hp1 h1 v rv
  · exact hp1.elim
theorem re_or {rest : List Expr} (ha : PE X a (RE X Γ W a')) (hb : PE X (.BoolOp .Or (b :: rest) pos) (RE X Γ W b')) : PE X (.BoolOp .Or (a :: b :: rest) pos) (RE X Γ W (.or a' b')) := by
  refine PE.imp (pe_orT ha hb) fun σ H Q ⟨ι, ρ, c, hσ, hH, hp⟩ => ?_
  unfold dE at hp
  refine ⟨ι, ρ, c, hσ, hH, (Post.bind hp).imp fun x c1 ι1 H1 e1 h1 hp1 v rv => ?_⟩
  split at hp1
  · rename_i q
    refine ⟨true, truth_ok h1 rv q, ?_⟩
    refine iteT ?_
    exact Post.ok hp1 h1 v rv
  · rename_i q
    refine ⟨false, truth_ok h1 rv q, ?_⟩
    refine iteF ?_
    exact ⟨ι1, ρ, c1, hσ.mono e1, h1, hp1⟩
  · exact hp1.elim
theorem re_ite {t : Expr} {t' : IE} (ht : PT X t (RT X Γ W t')) (ha : PE X a (RE X Γ W a')) (hb : PE X b (RE X Γ W b')) : PE X (.IfExp t a b pos) (RE X Γ W (.ite t' a' b')) := by
  refine PE.imp (pe_ifExp ht ha hb) fun σ H Q ⟨ι, ρ, c, hσ, hH, hp⟩ => ?_
  unfold dE at hp
  refine ⟨ι, ρ, c, hσ, hH, (Post.bind hp).imp fun x c1 ι1 H1 e1 h1 hp1 => ?_⟩
  split at hp1
  · rename_i q
    refine ⟨true, q, ?_⟩
    refine iteT ?_
    exact ⟨ι1, ρ, c1, hσ.mono e1, h1, hp1⟩
  · rename_i q
    refine ⟨false, q, ?_⟩
    refine iteF ?_
    exact ⟨ι1, ρ, c1, hσ.mono e1, h1, hp1⟩
  · exact hp1.elim
theorem re_chain (ok : Ok X g N sc Γ W k) {e3 : Expr} {e3' : IE} {o o' : CmpOp} (hm : behindInMarks o b = false) (hm' : behindInMarks o' e3 = false) (ha : PE X a (RE X Γ W a')) (hb : PE X b (RE X Γ W b')) (hc : PE X e3 (RE X Γ W e3'))
    (go : PE X (.Compare a [o, o'] [b, e3] pos) (tChain (rS X.K (opCmp o)) (rS X.K (opCmp o')) (RE X Γ W a') (RE X Γ W b') (RE X Γ W e3'))) : PE X (.Compare a [o, o'] [b, e3] pos) (RE X Γ W (.chain o o' a' b' e3')) := by
  refine PE.imp go fun σ H Q ⟨ι, ρ, c, hσ, hH, hp⟩ => ?_
  unfold dE at hp
  refine ⟨ι, ρ, c, hσ, hH, (Post.bind hp).imp fun x c1 ι1 H1 e1 h1 hp1 v rv => ⟨ι1, ρ, c1, hσ.mono e1, h1, (Post.bind hp1).imp fun y c2 ι2 H2 e2 h2 hp2 u ru => ?_⟩⟩
  cases q : opCmp o x y c2 with
  | ok d c3 =>
    rw [q, R.bind_ok] at hp2
    refine ⟨ι2, c2, x, y, d, c3, h2, rv.mono e2, ru, q, fun ι3 H3 w e3 h3 rw' => ?_⟩
    split at hp2
    · cases rw'
      refine ⟨true, rfl, ?_⟩
      simp only [if_true]
      refine ⟨ι3, ρ, c3, (hσ.mono (e1.trans (e2.trans e3))), h3, (Post.bind (hp2.mono e3)).imp fun z c4 ι4 H4 e4 h4 hp4 zz rz => ?_⟩
      cases q2 : opCmp o' y z c4 with
      | ok d2 c5 =>
        rw [q2] at hp4
        exact ⟨ι4, c4, y, z, d2, c5, h4, ru.mono (e3.trans e4), rz, q2, fun ι' H' w e5 h5 r5 => hp4 ι' H' e5 h5 w r5⟩
      | ex _ _ => exact absurd q2 noex_cmp
      | no => rw [q2] at hp4; exact hp4.elim
    · cases rw'
      refine ⟨false, rfl, ?_⟩
      simp only [Bool.false_eq_true, if_false]
      exact (hp2.mono e3).ok h3 _ rfl
    · exact hp2.elim
  | ex z c3 => exact absurd q noex_cmp
  | no => rw [q] at hp2; exact hp2.elim

/-! ### tests -/
theorem rt_plain (ha : PE X a (RE X Γ W a')) (he : ∀ whole, isTrue a X.env whole = (do let v ← whole; standAt a.pos; holding [v] (truthy v))) : PT X a (RT X Γ W a') := by
  refine PT.imp (pt_truth ha he) fun σ H Q ⟨ι, ρ, c, hσ, hH, hp⟩ => ⟨ι, ρ, c, hσ, hH, hp.imp fun x c1 ι1 H1 e1 h1 ⟨b, q, hq⟩ v rv => ⟨b, truth_ok h1 rv q, hq⟩⟩
theorem rt_not (ha : PT X a (RT X Γ W a')) : PT X (.UnaryOp .Not a pos) (RT X Γ W (.not a')) := by
  refine PT.imp (pt_not ha) fun σ H Q ⟨ι, ρ, c, hσ, hH, hp⟩ => ?_
  unfold dE at hp
  refine ⟨ι, ρ, c, hσ, hH, (Post.bind hp).imp fun x c1 ι1 H1 e1 h1 hp1 => ?_⟩
  split at hp1
  · rename_i b q
    obtain ⟨b2, e, hq⟩ := Post.ok hp1 h1
    cases e
    exact ⟨b, q, hq⟩
  · exact hp1.elim
theorem rt_and {rest : List Expr} (ha : PT X a (RT X Γ W a')) (hb : PW X (.BoolOp .And (b :: rest) pos) (RT X Γ W b')) : PW X (.BoolOp .And (a :: b :: rest) pos) (RT X Γ W (.and a' b')) := by
  refine PW.imp (pw_and ha hb) fun σ H Q ⟨ι, ρ, c, hσ, hH, hp⟩ => ?_
  unfold dE at hp
  refine ⟨ι, ρ, c, hσ, hH, (Post.bind hp).imp fun x c1 ι1 H1 e1 h1 hp1 => ?_⟩
  split at hp1
  · rename_i q
    refine ⟨true, q, ?_⟩
    refine iteT ?_
    exact ⟨ι1, ρ, c1, hσ.mono e1, h1, hp1⟩
  · rename_i q
    refine ⟨false, q, ?_⟩
    refine iteF ?_
    obtain ⟨b2, e, hq⟩ := Post.ok hp1 h1
    rw [q] at e; cases e
    exact hq
  · exact hp1.elim
theorem rt_or {rest : List Expr} (ha : PT X a (RT X Γ W a')) (hb : PW X (.BoolOp .Or (b :: rest) pos) (RT X Γ W b')) : PW X (.BoolOp .Or (a :: b :: rest) pos) (RT X Γ W (.or a' b')) := by
  refine PW.imp (pw_or ha hb) fun σ H Q ⟨ι, ρ, c, hσ, hH, hp⟩ => ?_
  unfold dE at hp
  refine ⟨ι, ρ, c, hσ, hH, (Post.bind hp).imp fun x c1 ι1 H1 e1 h1 hp1 => ?_⟩
  split at hp1
  · rename_i q
    refine ⟨true, q, ?_⟩
    refine iteT ?_
    obtain ⟨b2, e, hq⟩ := Post.ok hp1 h1
    rw [q] at e; cases e
    exact hq
  · rename_i q
    refine ⟨false, q, ?_⟩
    refine iteF ?_
    exact ⟨ι1, ρ, c1, hσ.mono e1, h1, hp1⟩
  · exact hp1.elim
theorem rt_ite {t : Expr} {t' : IE} (ht : PT X t (RT X Γ W t')) (ha : PT X a (RT X Γ W a')) (hb : PT X b (RT X Γ W b')) : PT X (.IfExp t a b pos) (RT X Γ W (.ite t' a' b')) := by
  refine ⟨fun pins s σ H Q I ⟨ι, ρ, c, hσ, hH, hp⟩ => ?_⟩
  unfold dE at hp
  show wpAny _ _ (do if ← isTrue t X.env (eval t X.env) then isTrue a X.env (eval a X.env) else isTrue b X.env (eval b X.env)) _ _ _
  refine wpAny_bind (thn (ht.run pins s σ H (fun bb H1 => ∃ ι1 ρ1 c1, SRep X.K ι1 H1 σ ρ1 ∧ HRep X.K ι1 H1 c1 ∧ Post X.K X.mg W σ ι1 H1 (if bb = true then dE Γ a' ρ1 c1 else dE Γ b' ρ1 c1) fun d c' ι' H' => ∃ b, truth c' d = some b ∧ Q b H') I
    ⟨ι, ρ, c, hσ, hH, (Post.bind hp).imp fun x c1 ι1 H1 e1 h1 hp1 => ?_⟩) fun bb s1 ⟨H1, I1, ι1, ρ1, c1, hσ1, hH1, hp1⟩ => ?_)
  · split at hp1
    · rename_i q
      exact ⟨true, q, ι1, ρ, c1, hσ.mono e1, h1, hp1⟩
    · rename_i q
      exact ⟨false, q, ι1, ρ, c1, hσ.mono e1, h1, hp1⟩
    · exact hp1.elim
  · cases bb with
    | true => exact ha.run pins s1 σ H1 Q I1 ⟨ι1, ρ1, c1, hσ1, hH1, hp1⟩
    | false => exact hb.run pins s1 σ H1 Q I1 ⟨ι1, ρ1, c1, hσ1, hH1, hp1⟩
theorem opCmp_bl {o : CmpOp} {x y d : D} {c c' : Cells} (h : opCmp o x y c = .ok d c') : ∃ b, d = .bl b := by
  cases o with
  | Eq => obtain ⟨b, _, rfl, _⟩ := obl_ok h; exact ⟨b, rfl⟩
  | NotEq => obtain ⟨b, _, rfl, _⟩ := obl_ok h; exact ⟨b, rfl⟩
  | In => obtain ⟨b, _, rfl, _⟩ := obl_ok h; exact ⟨b, rfl⟩
  | NotIn => obtain ⟨b, _, rfl, _⟩ := obl_ok h; exact ⟨b, rfl⟩
  | _ => unfold opCmp at h; dsimp only at h; split at h <;> cases h <;> exact ⟨_, rfl⟩
theorem rt_cmp (ok : Ok X g N sc Γ W k) {o : CmpOp} (hm : behindInMarks o b = false) (ha : PE X a (RE X Γ W a')) (hb : PE X b (RE X Γ W b')) : PT X (.Compare a [o] [b] pos) (RT X Γ W (.cmp o a' b')) := by
  refine PT.imp (pt_cmpR (opCmp_s (by have := ok.room.un; omega) o) ha hb hm) fun σ H Q ⟨ι, ρ, c, hσ, hH, hp⟩ => ?_
  unfold dE at hp
  refine ⟨ι, ρ, c, hσ, hH, (Post.bind hp).imp fun x c1 ι1 H1 e1 h1 hp1 v rv => ⟨ι1, ρ, c1, hσ.mono e1, h1, (Post.bind hp1).imp fun y c2 ι2 H2 e2 h2 hp2 u ru => ?_⟩⟩
  cases q : opCmp o x y c2 with
  | ok d c3 =>
    rw [q] at hp2
    obtain ⟨bb, rfl⟩ := opCmp_bl q
    refine ⟨ι2, c2, x, y, _, c3, h2, rv.mono e2, ru, q, fun ι3 H3 w e3 h3 rw' => ?_⟩
    obtain ⟨b2, z, hq⟩ := hp2 ι3 H3 e3 h3
    cases z
    cases rw'
    exact ⟨bb, rfl, hq⟩
  | ex _ _ => exact absurd q noex_cmp
  | no => rw [q] at hp2; exact hp2.elim
theorem rt_chain (ok : Ok X g N sc Γ W k) {e3 : Expr} {e3' : IE} {o o' : CmpOp} {tt : TT} (go : PT X (.Compare a [o, o'] [b, e3] pos) tt)
    (ht : ∀ σ H Q, tChain (rS X.K (opCmp o)) (rS X.K (opCmp o')) (RE X Γ W a') (RE X Γ W b') (RE X Γ W e3') σ H (fun z H' => ∃ k, z = .bl k ∧ Q k H') → tt σ H Q) : PT X (.Compare a [o, o'] [b, e3] pos) (RT X Γ W (.chain o o' a' b' e3')) := by
  refine PT.imp go fun σ H Q ⟨ι, ρ, c, hσ, hH, hp⟩ => ht σ H Q ?_
  unfold dE at hp
  refine ⟨ι, ρ, c, hσ, hH, (Post.bind hp).imp fun x c1 ι1 H1 e1 h1 hp1 v rv => ⟨ι1, ρ, c1, hσ.mono e1, h1, (Post.bind hp1).imp fun y c2 ι2 H2 e2 h2 hp2 u ru => ?_⟩⟩
  cases q : opCmp o x y c2 with
  | ok d c3 =>
    rw [q, R.bind_ok] at hp2
    refine ⟨ι2, c2, x, y, d, c3, h2, rv.mono e2, ru, q, fun ι3 H3 w e3 h3 rw' => ?_⟩
    split at hp2
    · cases rw'
      refine ⟨true, rfl, ?_⟩
      simp only [if_true]
      refine ⟨ι3, ρ, c3, (hσ.mono (e1.trans (e2.trans e3))), h3, (Post.bind (hp2.mono e3)).imp fun z c4 ι4 H4 e4 h4 hp4 zz rz => ?_⟩
      cases q2 : opCmp o' y z c4 with
      | ok d2 c5 =>
        rw [q2] at hp4
        obtain ⟨bb, rfl⟩ := opCmp_bl q2
        refine ⟨ι4, c4, y, z, _, c5, h4, ru.mono (e3.trans e4), rz, q2, fun ι' H' w e5 h5 r5 => ?_⟩
        obtain ⟨b2, z2, hq⟩ := hp4 ι' H' e5 h5
        cases z2
        cases r5
        exact ⟨bb, rfl, hq⟩
      | ex _ _ => exact absurd q2 noex_cmp
      | no => rw [q2] at hp4; exact hp4.elim
    · cases rw'
      refine ⟨false, rfl, ?_⟩
      simp only [Bool.false_eq_true, if_false]
      obtain ⟨b2, z2, hq⟩ := (hp2.mono e3).ok h3
      cases z2
      exact ⟨false, rfl, hq⟩
    · exact hp2.elim
  | ex z c3 => exact absurd q noex_cmp
  | no => rw [q] at hp2; exact hp2.elim

/-! ### lists of expressions -/
variable {es : List Expr} {es' : List IE}
theorem ra_nil : PA X [] (RA X Γ W []) := PA.imp pa_nil fun σ H Q ⟨ι, ρ, c, hσ, hH, hp⟩ => by
  unfold dEs at hp
  exact Post.ok hp hH [] rfl
theorem ra_cons (hs : starEach (e :: es) X.env = (false, eval e X.env) :: starEach es X.env) (ha : PE X e (RE X Γ W e')) (hr : PA X es (RA X Γ W es')) : PA X (e :: es) (RA X Γ W (e' :: es')) := by
  refine PA.imp (pa_cons ha hr hs) fun σ H Q ⟨ι, ρ, c, hσ, hH, hp⟩ => ?_
  unfold dEs at hp
  refine ⟨ι, ρ, c, hσ, hH, (Post.bind hp).imp fun x c1 ι1 H1 e1 h1 hp1 v rv => ⟨ι1, ρ, c1, hσ.mono e1, h1, (Post.bind hp1).imp fun ys c2 ι2 H2 e2 h2 hp2 us rus => ?_⟩⟩
  exact Post.ok hp2 h2 _ ⟨v, us, rfl, rv.mono e2, rus⟩
theorem re_tup {j : Nat} (h : PA X es (RA X Γ W es')) : PE X (.Tuple es j pos) (RE X Γ W (.tup es')) := by
  refine PE.imp (pe_tup h) fun σ H Q ⟨ι, ρ, c, hσ, hH, hp⟩ => ?_
  unfold dE at hp
  refine ⟨ι, ρ, c, hσ, hH, (Post.bind hp).imp fun xs c1 ι1 H1 e1 h1 hp1 vs rv => ?_⟩
  split at hp1
  · rename_i hl
    exact ⟨by rw [rv.length, ← lim_eq]; exact hl, fun p hp => q_tup h1 rv hp fun ι' H' w e2 h2 r2 => hp1 ι' H' e2 h2 w r2⟩
  · exact hp1.elim
theorem re_lst (h : PA X es (RA X Γ W es')) : PE X (.List es pos) (RE X Γ W (.lst es')) := by
  refine PE.imp (pe_lst h) fun σ H Q ⟨ι, ρ, c, hσ, hH, hp⟩ => ?_
  unfold dE at hp
  refine ⟨ι, ρ, c, hσ, hH, (Post.bind hp).imp fun xs c1 ι1 H1 e1 h1 hp1 vs rv => ?_⟩
  split at hp1
  · rename_i hl
    exact ⟨by rw [rv.length, ← lim_eq]; exact hl, fun p hp => q_lst h1 rv hp fun ι' H' w e2 h2 r2 => hp1 ι' H' e2 h2 w r2⟩
  · exact hp1.elim
theorem re_rv {j : Nat} {p1 p2 p3 : Pos} (ha : PE X a (RE X Γ W a')) : PE X (.Subscript a (.Slice none none (some (.UnaryOp .USub (.Constant (.int 1) j p1) p2)) p3) pos) (RE X Γ W (.rv a')) := by
  refine PE.imp (pe_revA ha) fun σ H Q ⟨ι, ρ, c, hσ, hH, hp⟩ => ?_
  unfold dE at hp
  refine ⟨ι, ρ, c, hσ, hH, (Post.bind hp).imp fun x c1 ι1 H1 e1 h1 hp1 v rv => ?_⟩
  split at hp1
  · rename_i xs
    obtain ⟨p, vs, rfl, s1, r1⟩ := rv
    exact ⟨p, vs, rfl, .inr ⟨s1, fun q hq => q_tup h1 r1.reverse hq fun ι' H' w e2 h2 r2 => hp1 ι' H' e2 h2 w r2⟩⟩
  · split at hp1
    · rename_i xs g
      obtain ⟨p, vs, g1, e2, r1⟩ := h1.lst g
      cases rep_fn rv g1
      exact ⟨p, vs, rfl, .inl ⟨SqL.of e2, fun q hq => q_lst h1 r1.reverse hq fun ι' H' w e2 h2 r2 => hp1 ι' H' e2 h2 w r2⟩⟩
    · exact hp1.elim
  · exact hp1.elim
theorem re_sl {lo hi : Option Expr} {lo' hi' : IE} {p2 : Pos} (ha : PE X a (RE X Γ W a')) (hl : PO X lo (RO X Γ W lo')) (hh : PO X hi (RO X Γ W hi')) : PE X (.Subscript a (.Slice lo hi none p2) pos) (RE X Γ W (.sl a' lo' hi')) := by
  refine PE.imp (pe_slice opSl_s ha hl hh) fun σ H Q ⟨ι, ρ, c, hσ, hH, hp⟩ => ?_
  unfold dE at hp
  refine ⟨ι, ρ, c, hσ, hH, (Post.bind hp).imp fun x c1 ι1 H1 e1 h1 hp1 v rv => ⟨ι1, ρ, c1, hσ.mono e1, h1, (Post.bind hp1).imp fun l c2 ι2 H2 e2 h2 hp2 => ⟨ι2, ρ, c2, hσ.mono (e1.trans e2), h2, (Post.bind hp2).imp fun u c3 ι3 H3 e3 h3 hp3 => ?_⟩⟩⟩
  cases q : opSl x l u c3 with
  | ok d c4 =>
    rw [q] at hp3
    exact ⟨ι3, c3, x, d, c4, h3, rv.mono (e2.trans e3), q, fun ι' H' w e4 h4 r4 => hp3 ι' H' e4 h4 w r4⟩
  | ex _ _ => exact absurd q noex_sl
  | no => rw [q] at hp3; exact hp3.elim
theorem ro_no : PO X none (RO X Γ W .no) := by
  refine ⟨fun pins s σ H Q I ⟨ι, ρ, c, hσ, hH, hp⟩ => (po_none (X := X)).run pins s σ H Q I ?_⟩
  unfold dO at hp
  exact Post.ok hp hH
theorem dO_val {ρ : Lo} {c : Cells} (h : a' ≠ .no) : dO Γ a' ρ c = (dE Γ a' ρ c).bind fun x c1 => match x with | .int i => .ok (some i) c1 | _ => .no := by
  cases a' <;> first | exact absurd rfl h | (rw [dO] <;> first | rfl | nofun)
theorem ro_some (hn : a' ≠ .no) (h : PE X a (RE X Γ W a')) : PO X (some a) (RO X Γ W a') := by
  refine ⟨fun pins s σ H Q I ⟨ι, ρ, c, hσ, hH, hp⟩ => (po_some h).run pins s σ H Q I ?_⟩
  rw [dO_val hn] at hp
  refine ⟨ι, ρ, c, hσ, hH, (Post.bind hp).imp fun x c1 ι1 H1 e1 h1 hp1 v rv => ?_⟩
  split at hp1
  · cases rv
    exact ⟨_, rfl, Post.ok hp1 h1⟩
  · exact hp1.elim

/-! ### calls -/
theorem re_call (ok : Ok X g N sc Γ W k) {f : String} {x : Str} {p : Pos} (hf : f ∈ g.fns) (hx : Str.ofString f = x) (hg : Gl X x) (hd : (x == ("__debug__" : Str)) = false) (ha : PA X (e :: es) (RA X Γ W es'))
    (he : starEach (e :: es) X.env = (false, eval e X.env) :: starEach es X.env) (hpl : (backTo pos (starEach es X.env)).any (·.1) = false) : PE X (.Call (.Name x p) (e :: es) [] pos) (RE X Γ W (.call f es')) := by
  obtain ⟨ad, fd, ps, h1, h2, h3, h4⟩ := ok.fns f hf
  rw [hx] at h1
  refine PE.imp (pe_callX (E := WE W) h4 ok.room ok.gds hg h1 h2 h3 (fun σ => passAt ok.tk σ) ha hd he hpl) fun σ H Q ⟨ι, ρ, c, hσ, hH, hp⟩ => ?_
  unfold dE at hp
  exact ⟨ι, ρ, c, hσ, hH, (Post.bind hp).imp fun xs c1 ι1 H1 e1 h1 hp1 vs rv => ⟨ι1, c1, xs, h1, rv, by
    cases q : Γ.call f xs c1 with
    | ok d c2 => rw [q] at hp1; exact hp1
    | ex z c2 => rw [q] at hp1; exact hp1
    | no => rw [q] at hp1; exact hp1⟩⟩
theorem re_call0 (ok : Ok X g N sc Γ W k) {f : String} {x : Str} {p : Pos} (hf : f ∈ g.fns) (hx : Str.ofString f = x) (hg : Gl X x) (hd : (x == ("__debug__" : Str)) = false) : PE X (.Call (.Name x p) [] [] pos) (RE X Γ W (.call f [])) := by
  obtain ⟨ad, fd, ps, h1, h2, h3, h4⟩ := ok.fns f hf
  rw [hx] at h1
  refine ⟨fun pins s σ H Q I ⟨ι, ρ, c, hσ, hH, hp⟩ => ?_⟩
  unfold dE at hp
  have hp1 : Post X.K X.mg W σ ι H (Γ.call f [] c) fun d _ ι' H' => ∀ v, Rep X.K ι' H' d v → Q v H' := by
    simp only [dEs, R.bind_ok] at hp
    exact hp
  refine wpAny_Call_Name_kw (ld_glob I hg h1 ?_ hd)
  refine PySem.W.callWith_K0 I.kIn h2 (run_fnX (us := []) (E := WE W) h4 ok.room ok.gds h3 (passAt ok.tk σ) I .nil ⟨ι, c, [], hH, rfl, ?_⟩)
  cases q : Γ.call f [] c with
  | ok d c2 => rw [q] at hp1; exact hp1
  | ex z c2 => rw [q] at hp1; exact hp1
  | no => rw [q] at hp1; exact hp1.elim
theorem blt_of {T : TA} {r : List V → Hp → VK → Prop} {b : Blt} (h : PE X e (tCB r (RA X Γ W es'))) (hr : ∀ vs H Q, rS1 X.K (opBlt b) vs H Q → r vs H Q) : PE X e (RE X Γ W (.blt b es')) := by
  refine PE.imp h fun σ H Q ⟨ι, ρ, c, hσ, hH, hp⟩ => ?_
  unfold dE at hp
  refine ⟨ι, ρ, c, hσ, hH, (Post.bind hp).imp fun xs c1 ι1 H1 e1 h1 hp1 vs rv => hr _ _ _ ?_⟩
  cases q : opBlt b xs c1 with
  | ok d c2 => rw [q] at hp1; exact ⟨ι1, c1, xs, d, c2, h1, rv, q, fun ι' H' w e2 h2 r2 => hp1 ι' H' e2 h2 w r2⟩
  | ex _ _ => exact absurd q noex_blt
  | no => rw [q] at hp1; exact hp1.elim
theorem re_blt (ok : Ok X g N sc Γ W k) {b : Blt} (hrp : b = .repr → g.gd = true) {x : Str} {p : Pos} (hg : Gl X x) (hm : X.mg x = none) (hd : (x == ("__debug__" : Str)) = false) (hn : x ≠ "__name__") (hv : bootBuiltins x = some (bltVal b)) (ha : PA X (e :: es) (RA X Γ W es'))
    (he : starEach (e :: es) X.env = (false, eval e X.env) :: starEach es X.env) (hpl : (backTo pos (starEach es X.env)).any (·.1) = false) : PE X (.Call (.Name x p) (e :: es) [] pos) (RE X Γ W (.blt b es')) := by
  have hs := opBlt_s ok.calm b fun z => ⟨ok.gds (hrp z), by have := ok.room.un; omega⟩
  cases b <;> first
    | exact blt_of (T := RA X Γ W es') (pe_callB hs hg hm hv ha hn hd he hpl) fun _ _ _ h => h
    | exact blt_of (T := RA X Γ W es') (pe_callTy hs hg hm hv ha hn hd he hpl) fun _ _ _ h => h
end
end G
end

section
set_option Elab.async false
set_option linter.all false
set_option maxRecDepth 100000
set_option maxHeartbeats 4000000
set_option autoImplicit false
/-! GExpr2: isinstance, methods, targets, what is walked, comprehensions. -/
namespace G
open PySem L2
variable [Tables]
section
variable {X : Cx} {g : GI} {N : List Str} {sc : Scope} {Γ : Ctx} {W : WX} {k : Nat} {pos : Pos} {a b e : Expr} {a' b' e' : IE} {es : List Expr} {es' : List IE}

/-! ### isinstance -/
theorem kit_all : ∀ t ∈ ["NoneType", "bool", "int", "str", "tuple", "list", "dict", "set"], ∀ u ∈ bltTys, kitB t u = some (t == u || (t == "bool" && u == "int")) := by decide +kernel
theorem tyOf_mem {c : Cells} {x : D} {t : String} (h : tyOf c x = some t) : t ∈ ["NoneType", "bool", "int", "str", "tuple", "list", "dict", "set"] := by
  unfold tyOf at h
  split at h <;> first
    | (cases h; decide)
    | (split at h <;> first | (cases h; decide) | cases h)
theorem tyx_of {ι : List (Addr × Bool)} {H : Hp} {c : Cells} {x : D} {v : V} {t : String} (hH : HRep X.K ι H c) (r : Rep X.K ι H x v) (h : tyOf c x = some t) : TyX X.K H v (.type t) := by
  unfold tyOf at h
  split at h
  · cases h; cases r; exact .base .non
  · cases h; cases r; exact .base (.bl _)
  · cases h; cases r; exact .base (.int _)
  · cases h; cases r; exact .base (.str _)
  · cases h
    obtain ⟨p, vs, rfl, s1, _⟩ := r
    rcases s1 with (s1 | ⟨o, s1⟩) | ⟨o, its, n, h1, h2, _⟩
    · exact .base (.tup s1)
    · exact .fTuple s1
    · exact .kTuple h1 h2
  · split at h
    · rename_i g
      cases h
      obtain ⟨ad, vs, g1, e1, _⟩ := hH.lst g
      cases rep_fn r g1
      exact .base (.lst e1)
    · rename_i g
      cases h
      obtain ⟨ad, w, g1, ⟨vs, q, _⟩, _⟩ := hH.at g
      cases rep_fn r ⟨w, g1⟩
      rcases q with ⟨o, q⟩ | ⟨o, its, n, h1, h2, _⟩
      · exact .base (.frz q)
      · exact .kList h1 h2
    · rename_i g
      obtain ⟨ad, w, _, z, _⟩ := hH.at g
      exact z.elim
    · rename_i g
      obtain ⟨ad, w, _, z, _⟩ := hH.at g
      exact z.elim
    · cases h
theorem boot_tys : ∀ u ∈ bltTys, bootBuiltins (Str.ofString u) = some (.type u) := by decide +kernel
/-- a built-in class as a value -/
theorem pe_type (ok : Ok X g N sc Γ W k) {x : Str} {t : String} (hx : plainN x = true) (hg : glB sc x = true) (h : look bltTys x = some t) : PE X (.Name x pos) (tC (.ty t)) ∧ t ∈ bltTys := by
  obtain ⟨e1, e2⟩ := look_get h
  have hm : X.mg x = none := by
    have sub : ∀ u ∈ bltTys, u ∈ bltNames := by decide
    have : (look bltNames x).isSome = true := by
      unfold look
      rw [List.find?_isSome]
      exact ⟨t, sub t e2, by rw [e1]; exact beq_self_eq_true x⟩
    obtain ⟨b, hb⟩ := Option.isSome_iff_exists.mp this
    exact ok.blt x b hb
  refine ⟨pe_bltn (v := .ty t) (u := .type t) (gl_of (by rw [ok.hsc]; exact hg)) hm ?_ rfl (plain_name hx) (plain_dbg hx), e2⟩
  rw [← e1]
  exact boot_tys t e2
theorem re_isi (ok : Ok X g N sc Γ W k) {x : Str} {p : Pos} {c2 : Expr} {t : String} (ht : t ∈ bltTys) (hg : Gl X x) (hx : plainN x = true) (hm : X.mg x = none) (hv : bootBuiltins x = some (.builtin "isinstance")) (hc2 : PE X c2 (tC (.ty t)))
    (ha : PE X e (RE X Γ W e')) (he1 : starEach [e, c2] X.env = (false, eval e X.env) :: starEach [c2] X.env) (he2 : starEach [c2] X.env = (false, eval c2 X.env) :: starEach [] X.env) (hpl : (backTo pos (starEach [c2] X.env)).any (·.1) = false) :
    PE X (.Call (.Name x p) [e, c2] [] pos) (RE X Γ W (.isi e' [t])) := by
  refine PE.imp (pe_callB call_isi hg hm hv (pa_cons ha (pa_cons hc2 pa_nil he2) he1) (plain_name hx) (plain_dbg hx) he1 hpl) fun σ H Q ⟨ι, ρ, c, hσ, hH, hp⟩ => ?_
  unfold dE at hp
  refine ⟨ι, ρ, c, hσ, hH, (Post.bind hp).imp fun y c1 ι1 H1 e1 h1 hp1 v rv => ?_⟩
  split at hp1
  · rename_i ty q
    refine ⟨v, .ty t, .type ty, .type t, isTy ty [t], rfl, .ty t, tyx_of h1 rv q, kit_ty ?_, Post.ok hp1 h1 _ rfl⟩
    rw [kit_all ty (tyOf_mem q) t ht]
    simp [isTy]
  · exact hp1.elim
theorem kit_any {K : PySem.W.Frag} {ty : String} (h : ty ∈ ["NoneType", "bool", "int", "str", "tuple", "list", "dict", "set"]) : ∀ ts : List String, (∀ t ∈ ts, t ∈ bltTys) → PySem.W.kitAny K (.type ty) (ts.map Value.type) = some (isTy ty ts)
  | [], _ => rfl
  | t :: ts, hts => by
    have ih := kit_any (K := K) h ts fun u hu => hts u (List.mem_cons_of_mem _ hu)
    have k1 := kit_all ty h t (hts t List.mem_cons_self)
    rw [List.map_cons]
    refine kitAny_cons (b := (ty == t || (ty == "bool" && t == "int"))) (kit_ty k1) (fun hb => ?_) (fun hb => ?_)
    · rw [ih]
      unfold isTy
      rw [List.any_cons, hb, Bool.false_or]
    · unfold isTy
      rw [List.any_cons, hb, Bool.true_or]
/-- a tuple of built-in classes -/
def tTys (ts : List String) : TA := fun _ H Q => Q (ts.map V.ty) H
theorem pa_tys (ok : Ok X g N sc Γ W k) : ∀ (cs : List Expr) (ts : List String), tysE sc cs = some ts → PA X cs (tTys ts) ∧ ∀ t ∈ ts, t ∈ bltTys
  | [], ts, h => by
    cases h
    exact ⟨PA.imp pa_nil fun _ _ _ h => h, fun _ z => nomatch z⟩
  | c :: cs, ts, h => by
    unfold tysE at h
    obtain ⟨t, r, h3, h4, rfl⟩ := o2_some h
    obtain ⟨p1, p2⟩ := pa_tys ok cs r h4
    unfold tyE at h3
    split at h3
    · split at h3
      · rename_i x px hh
        simp only [Bool.and_eq_true] at hh
        obtain ⟨q1, q2⟩ := pe_type (pos := px) ok hh.1 hh.2 h3
        refine ⟨PA.imp (pa_cons q1 p1 rfl) fun σ H Q h => h, fun u hu => ?_⟩
        rcases List.mem_cons.mp hu with rfl | hu
        · exact q2
        · exact p2 u hu
      · cases h3
    · cases h3
theorem cls_tys : ∀ ts : List String, Paired ClsV (ts.map V.ty) (ts.map Value.type)
  | [] => .nil
  | t :: ts => .cons (.ty t) (cls_tys ts)
theorem re_isiT (ok : Ok X g N sc Γ W k) {x : Str} {p p3 : Pos} {cs : List Expr} {j : Nat} {ts : List String} (ht : tysE sc cs = some ts) (hg : Gl X x) (hx : plainN x = true) (hm : X.mg x = none) (hv : bootBuiltins x = some (.builtin "isinstance"))
    (hl : ts.length ≤ 100) (ha : PE X e (RE X Γ W e')) (he1 : starEach [e, .Tuple cs j p3] X.env = (false, eval e X.env) :: starEach [.Tuple cs j p3] X.env) :
    PE X (.Call (.Name x p) [e, .Tuple cs j p3] [] pos) (RE X Γ W (.isi e' ts)) := by
  obtain ⟨q1, q2⟩ := pa_tys ok cs ts ht
  refine PE.imp (pe_callB call_isiT hg hm hv (pa_cons ha (pa_cons (pe_tup q1) pa_nil rfl) he1) (plain_name hx) (plain_dbg hx) he1 rfl) fun σ H Q ⟨ι, ρ, c, hσ, hH, hp⟩ => ?_
  unfold dE at hp
  refine ⟨ι, ρ, c, hσ, hH, (Post.bind hp).imp fun y c1 ι1 H1 e1 h1 hp1 v rv => ⟨?_, fun tp htp => ?_⟩⟩
  · rw [List.length_map, sizeLine_eq]; omega
  · split at hp1
    · rename_i ty q
      refine ⟨v, tp, ts.map V.ty, .type ty, ts.map Value.type, isTy ty ts, rfl, upd_same, cls_tys ts, tyx_of (h1.new htp) (rv.mono (.new htp)) q, kit_any (tyOf_mem q) ts q2, ?_⟩
      exact (hp1.mono (.new htp)).ok (h1.new htp) _ rfl
    · exact hp1.elim

/-! ### methods -/
/-- the method's facts in the library -/
theorem re_meth {m : Me} {id : String} {name : Str} {o : Expr} {o' : IE} {apos : Pos} (pa : PlainAttrs "list") (slot : Slot "list" name id) (hty : typeOf (.builtin id) = pure (.type "method_descriptor")) (hmt : meT m = "list")
    (hm : MtR X id (fun v vs H Q => ∃ ι c x xs d c', HRep X.K ι H c ∧ Rep X.K ι H x v ∧ Reps X.K ι H xs vs ∧ opMeth m x xs c = .ok d c' ∧ ∀ ι' H' w, Ext ι H ι' H' → HRep X.K ι' H' c' → Rep X.K ι' H' d w → Q w H'))
    (ho : PE X o (RE X Γ W o')) (ha : PA X (e :: es) (RA X Γ W es')) (hbase : attributeBase o name X.env (eval o X.env) = eval o X.env)
    (hfew : ((backTo pos (starEach (e :: es) X.env)).all (fun x => !x.1) && (backToKw pos (keywordEach [] X.env)).all (fun x => x.1.isSome)
      && decide ((e :: es).length + ([] : List Keyword).length + (if ([] : List Keyword).isEmpty then 0 else 1) < 30)) = true)
    (hline : (apos.endLine == pos.line) = true) (hs : starEach (e :: es) X.env = (false, eval e X.env) :: starEach es X.env) (hplain : (backTo pos (starEach es X.env)).any (·.1) = false) :
    PE X (.Call (.Attribute o name apos) (e :: es) [] pos) (RE X Γ W (.meth m o' es')) := by
  refine PE.imp (pe_bm pa slot hty hm ho ha hbase hfew hline hs hplain) fun σ H Q ⟨ι, ρ, c, hσ, hH, hp⟩ => ?_
  unfold dE at hp
  refine ⟨ι, ρ, c, hσ, hH, (Post.bind hp).imp fun x c1 ι1 H1 e1 h1 hp1 v rv => ?_⟩
  split at hp1
  · rename_i hty
    rw [hmt] at hty
    refine ⟨?_, ι1, ρ, c1, hσ.mono e1, h1, (Post.bind hp1).imp fun xs c2 ι2 H2 e2 h2 hp2 vs rvs => ?_⟩
    · cases x with
      | ref n =>
        unfold tyOf at hty
        dsimp only at hty
        split at hty
        · rename_i gq
          obtain ⟨ad, us, g1, q1, _⟩ := h1.lst gq
          cases rep_fn rv g1
          exact .inl ⟨rfl, us, SqL.of q1⟩
        · rename_i ys gq
          obtain ⟨ad, us, g1, q1, _⟩ := h1.getL (show getL c1 n = some ys by unfold getL; rw [gq])
          cases rep_fn rv g1
          exact .inl ⟨rfl, us, q1⟩
        · rename_i gq
          obtain ⟨ad, w, _, z, _⟩ := h1.at gq
          exact z.elim
        · rename_i gq
          obtain ⟨ad, w, _, z, _⟩ := h1.at gq
          exact z.elim
        · cases hty
      | _ => simp [tyOf] at hty
    · cases q : opMeth m x xs c2 with
      | ok d c3 => rw [q] at hp2; exact ⟨ι2, c2, x, xs, d, c3, h2, rv.mono e2, rvs, q, fun ι' H' w e3 h3 r3 => hp2 ι' H' e3 h3 w r3⟩
      | ex _ _ => exact absurd q noex_meth
      | no => rw [q] at hp2; exact hp2.elim
  · exact hp1.elim
theorem mt_app : MtR X "list.append" (fun v vs H Q => ∃ ι c x xs d c', HRep X.K ι H c ∧ Rep X.K ι H x v ∧ Reps X.K ι H xs vs ∧ opMeth .append x xs c = .ok d c' ∧ ∀ ι' H' w, Ext ι H ι' H' → HRep X.K ι' H' c' → Rep X.K ι' H' d w → Q w H') := by
  intro pins s σ H v vs vv us Q I rv rs h
  obtain ⟨ι, c, x, xs, d, c', hH, rx, rxs, e, q⟩ := h
  unfold opMeth at e
  split at e
  · split at e
    · rename_i gq
      split at e <;> cases e
      rename_i hl
      obtain ⟨w, ws, rfl, r1, r2⟩ := rxs
      cases r2
      obtain ⟨ad, ys, g1, q1, r3⟩ := hH.lstW gq
      cases rep_fn rx ⟨true, g1⟩
      obtain ⟨e1, h1⟩ := hH.write g1 gq q1 (r3.append (.one r1))
      exact mt_append pins s σ H _ _ vv us Q I rv rs ⟨ad, ys, w, rfl, rfl, q1, by rw [r3.length, ← lim_eq]; exact hl, q ι _ _ e1 h1 rfl⟩
    · cases e
  · rename_i z; cases z
  · rename_i z; cases z
  · cases e
theorem mt_ext : MtR X "list.extend" (fun v vs H Q => ∃ ι c x xs d c', HRep X.K ι H c ∧ Rep X.K ι H x v ∧ Reps X.K ι H xs vs ∧ opMeth .extend x xs c = .ok d c' ∧ ∀ ι' H' w, Ext ι H ι' H' → HRep X.K ι' H' c' → Rep X.K ι' H' d w → Q w H') := by
  intro pins s σ H v vs vv us Q I rv rs h
  obtain ⟨ι, c, x, xs, d, c', hH, rx, rxs, e, q⟩ := h
  unfold opMeth at e
  split at e
  · rename_i z; cases z
  · split at e
    · rename_i gq gq2
      split at e <;> cases e
      rename_i hl
      obtain ⟨w, ws, rfl, r1, r2⟩ := rxs
      cases r2
      obtain ⟨ad, ys, g1, q1, r3⟩ := hH.lstW gq
      obtain ⟨ad2, zs, g2, q2, r4⟩ := hH.lst gq2
      cases rep_fn rx ⟨true, g1⟩
      cases rep_fn r1 g2
      obtain ⟨e1, h1⟩ := hH.write g1 gq q1 (r3.append r4)
      exact mt_extend pins s σ H _ _ vv us Q I rv rs ⟨ad, ad2, ys, zs, rfl, rfl, q1, q2, by rw [r3.length, r4.length, ← lim_eq]; exact hl, q ι _ _ e1 h1 rfl⟩
    · cases e
  · rename_i z; cases z
  · cases e

/-! ### targets -/
theorem asgs_len {c : Cells} : ∀ {ts : List Tg} {xs : List D} {ρ ρ' : Lo}, asgs c ts xs ρ = some ρ' → ts.length = xs.length
  | [], [], _, _, _ => rfl
  | [], _ :: _, _, _, h => by unfold asgs at h; cases h
  | _ :: _, [], _, _, h => by unfold asgs at h; cases h
  | t :: ts, x :: xs, ρ, ρ', h => by
    unfold asgs at h
    split at h
    · rw [List.length_cons, List.length_cons, asgs_len h]
    · cases h
mutual
theorem rg_of (ok : TOk X N sc) : ∀ (t : Expr) (t' : Tg), cT N sc t = some t' → PG X t (RG X t')
  | .Name x p, t', h => by
    unfold cT at h
    split at h
    · rename_i hl
      obtain ⟨i, hi, rfl⟩ := o1_some h
      have hN : X.N[i]? = some x := by rw [ok.hN]; exact slot_get hi
      have hloc := ok.loc x hl
      refine ⟨fun pins s σ H v u Q I r ⟨ι, ρ, c, d, ρ', hσ, hH, rd, ha, q⟩ => (pg_name (by rw [ok.hN]; exact ok.nd) hN hloc.1 hloc.2).run pins s σ H v u Q I r ?_⟩
      unfold asg at ha
      cases ha
      exact q _ (hσ.set rd) ⟨by simp, fun j hj => by rw [List.getElem?_set_ne]; intro z; exact hj (by simp [tgSlots, z])⟩
    · cases h
  | .Tuple ts j p, t', h => by
    unfold cT at h
    obtain ⟨ts', hts, rfl⟩ := o1_some h
    obtain ⟨p1, p2, p3⟩ := rgs_of ok ts ts' hts
    refine ⟨fun pins s σ H v u Q I r ⟨ι, ρ, c, d, ρ', hσ, hH, rd, ha, q⟩ => ?_⟩
    have len : ∀ {xs : List D}, asgs c ts' xs ρ = some ρ' → xs.length = ts.length := fun {xs} e => by
      rw [← p3]; exact (asgs_len e).symm
    cases d with
    | tup xs =>
      have ha : asgs c ts' xs ρ = some ρ' := ha
      obtain ⟨ad, vs, rfl, s1, r1⟩ := rd
      exact (pg_tup ok.calm p1 (n := ts.length) p2.1 p2.2).run pins s σ H _ u Q I r ⟨ad, vs, rfl, s1, by rw [r1.length, len ha], ι, ρ, c, _, ρ', hσ, hH, r1, ha, fun σ' s' k' => q σ' s' (by unfold tgSlots; exact k')⟩
    | ref n =>
      have ha : (match c[n]? with | some (.lst xs) => asgs c ts' xs ρ | _ => none) = some ρ' := ha
      split at ha
      · rename_i gq
        obtain ⟨ad, vs, g1, q1, r1⟩ := hH.lst gq
        cases rep_fn rd g1
        exact (pg_lst ok.calm p1 (n := ts.length) p2.1 p2.2).run pins s σ H _ u Q I r ⟨ad, vs, rfl, SqL.of q1, by rw [r1.length, len ha], ι, ρ, c, _, ρ', hσ, hH, r1, ha, fun σ' s' k' => q σ' s' (by unfold tgSlots; exact k')⟩
      · cases ha
    | _ => cases (show (none : Option Lo) = some ρ' from ha)
  | .BoolOp .., _, h => by unfold cT at h; cases h
  | .NamedExpr .., _, h => by unfold cT at h; cases h
  | .BinOp .., _, h => by unfold cT at h; cases h
  | .UnaryOp .., _, h => by unfold cT at h; cases h
  | .Lambda .., _, h => by unfold cT at h; cases h
  | .IfExp .., _, h => by unfold cT at h; cases h
  | .Dict .., _, h => by unfold cT at h; cases h
  | .Set .., _, h => by unfold cT at h; cases h
  | .ListComp .., _, h => by unfold cT at h; cases h
  | .SetComp .., _, h => by unfold cT at h; cases h
  | .DictComp .., _, h => by unfold cT at h; cases h
  | .GeneratorExp .., _, h => by unfold cT at h; cases h
  | .Await .., _, h => by unfold cT at h; cases h
  | .Yield .., _, h => by unfold cT at h; cases h
  | .YieldFrom .., _, h => by unfold cT at h; cases h
  | .Compare .., _, h => by unfold cT at h; cases h
  | .Call .., _, h => by unfold cT at h; cases h
  | .FormattedValue .., _, h => by unfold cT at h; cases h
  | .JoinedStr .., _, h => by unfold cT at h; cases h
  | .Constant .., _, h => by unfold cT at h; cases h
  | .Attribute .., _, h => by unfold cT at h; cases h
  | .Subscript .., _, h => by unfold cT at h; cases h
  | .Starred .., _, h => by unfold cT at h; cases h
  | .List .., _, h => by unfold cT at h; cases h
  | .Slice .., _, h => by unfold cT at h; cases h
theorem rgs_of (ok : TOk X N sc) : ∀ (ts : List Expr) (ts' : List Tg), cTs N sc ts = some ts' → PGs X ts (RGs X ts') ∧ ((assignEach ts X.env).length = ts.length ∧ (assignEach ts X.env).findIdx? (·.1) = none) ∧ ts'.length = ts.length
  | [], ts', h => by
    unfold cTs at h
    cases h
    refine ⟨⟨fun pins s σ H vs us Q I r ⟨ι, ρ, c, ds, ρ', hσ, hH, rd, ha, q⟩ => pgs_nil.run pins s σ H vs us Q I r ?_⟩, ⟨rfl, rfl⟩, rfl⟩
    cases ds with
    | nil =>
      unfold asgs at ha
      cases ha
      cases rd
      exact ⟨rfl, q _ hσ ⟨rfl, fun _ _ => rfl⟩⟩
    | cons d ds => unfold asgs at ha; cases ha
  | t :: ts, ts', h => by
    unfold cTs at h
    obtain ⟨t', us', h1, h2, rfl⟩ := o2_some h
    have p1 := rg_of ok t t' h1
    obtain ⟨q1, ⟨q2, q3⟩, q4⟩ := rgs_of ok ts us' h2
    have hae : assignEach (t :: ts) X.env = (false, assign t X.env) :: assignEach ts X.env := by
      cases t <;> first | rfl | (unfold cT at h1; cases h1)
    refine ⟨⟨fun pins s σ H vs us Q I r ⟨ι, ρ, c, ds, ρ', hσ, hH, rd, ha, q⟩ => (pgs_cons p1 q1 (by rw [hae]; rfl)).run pins s σ H vs us Q I r ?_⟩, ⟨by rw [hae, List.length_cons, List.length_cons, q2], by rw [hae, List.findIdx?_cons]; simp [q3]⟩, by rw [List.length_cons, List.length_cons, q4]⟩
    cases ds with
    | nil => unfold asgs at ha; cases ha
    | cons d ds =>
      obtain ⟨w, ws, rfl, r1, r2⟩ := rd
      unfold asgs at ha
      split at ha
      · rename_i ρ1 e1
        exact ⟨w, ws, rfl, ι, ρ, c, d, ρ1, hσ, hH, r1, e1, fun σ' hσ' k' => ⟨ι, ρ1, c, ds, ρ', hσ', hH, r2, ha, fun σ2 s2 k2 => q σ2 s2 ⟨k2.1.trans k'.1, fun i hi => by
          have h1 : i ∉ tgSlots t' ∧ i ∉ tgsSlots us' := by unfold tgsSlots at hi; simpa using hi
          exact (k2.2 i h1.2).trans (k'.2 i h1.1)⟩⟩⟩
      · cases ha
end
end
end G
end

section
set_option Elab.async false
set_option linter.all false
set_option maxRecDepth 100000
set_option maxHeartbeats 4000000
set_option autoImplicit false
/-! GExpr3: what is walked, comprehensions. -/
namespace G
open PySem L2
variable [Tables]
section
variable {X : Cx} {g : GI} {N : List Str} {sc : Scope} {Γ : Ctx} {W : WX} {k : Nat} {pos : Pos} {a b e tg : Expr} {a' b' e' : IE} {es : List Expr} {es' : List IE}
theorem same_nil {c c' : Cells} : same [] c c' = true := rfl
theorem same_one {n : Nat} {c c' : Cells} (h : same [n] c c' = true) : c'[n]? = c[n]? := by
  unfold same at h
  simp only [List.all_cons, List.all_nil, Bool.and_true, decide_eq_true_eq] at h
  exact h.symm
theorem walk_tup {K : PySem.W.Frag} {ι : List (Addr × Bool)} {H : Hp} {c : Cells} {xs : List D} {ad : Addr} {vs : List V} (s1 : SqT K H ad vs) (r1 : Reps K ι H xs vs)
    (inj : ∀ H' us, SqT K H' ad vs → SqT K H' ad us → us = vs) : Walk K (Itt K ad) ι H c xs [] := by
  intro ι' H' c' i e1 h1 _
  have s2 := sqt_mono s1 e1
  have r2 := r1.mono e1
  refine ⟨fun d hd => ?_, fun hl => ⟨vs, s2, by rw [r1.length]; exact hl⟩⟩
  obtain ⟨v, hv, rv⟩ := r2.get hd
  refine ⟨⟨vs, v, s2, hv⟩, fun x H'' hy => ?_⟩
  obtain ⟨rfl, hy⟩ := hy
  have : some v = some x := hv.symm.trans (hy vs s2)
  cases this
  exact ⟨.refl, h1, rv⟩
theorem walk_tup' {K : PySem.W.Frag} {ι : List (Addr × Bool)} {H : Hp} {c : Cells} {xs : List D} {ad : Addr} {vs : List V} (s1 : SqT K H ad vs) (r1 : Reps K ι H xs vs) : Walk K (Itt K ad) ι H c xs [] := by
  intro ι' H' c' i e1 h1 _
  have s2 := sqt_mono s1 e1
  have r2 := r1.mono e1
  refine ⟨fun d hd => ?_, fun hl => ⟨vs, s2, by rw [r1.length]; exact hl⟩⟩
  obtain ⟨v, hv, rv⟩ := r2.get hd
  refine ⟨⟨vs, v, s2, hv⟩, fun x H'' hy => ?_⟩
  obtain ⟨rfl, hy⟩ := hy
  have : some v = some x := hv.symm.trans (hy vs s2)
  cases this
  exact ⟨.refl, h1, rv⟩
theorem walk_lst {K : PySem.W.Frag} {ι : List (Addr × Bool)} {H : Hp} {c : Cells} {xs : List D} {n : Nat} {ad : Addr} (hn : At ι n ad) (hc : getL c n = some xs) : Walk K (Itl K ad) ι H c xs [n] := by
  intro ι' H' c' i e1 h1 sm
  have hc' : getL c' n = some xs := by
    unfold getL at hc ⊢
    rw [same_one sm]; exact hc
  obtain ⟨ad', vs, g1, s1, r1⟩ := h1.getL hc'
  have : ad' = ad := by
    obtain ⟨w, hn⟩ := hn
    exact g1.inj ⟨w, e1.get hn⟩
  subst this
  refine ⟨fun d hd => ?_, fun hl => ⟨vs, s1, by rw [r1.length]; exact hl⟩⟩
  obtain ⟨v, hv, rv⟩ := r1.get hd
  refine ⟨⟨vs, v, s1, hv⟩, fun x H'' hy => ?_⟩
  obtain ⟨rfl, hy⟩ := hy
  have : some v = some x := hv.symm.trans (hy vs s1)
  cases this
  exact ⟨.refl, h1, rv⟩
theorem getL_lst {c : Cells} {n : Nat} {xs : List D} (h : c[n]? = some (.lst xs)) : getL c n = some xs := by unfold getL; rw [h]
theorem getL_frz {c : Cells} {n : Nat} {xs : List D} (h : c[n]? = some (.frz xs)) : getL c n = some xs := by unfold getL; rw [h]
theorem dI_val {ρ : Lo} {c : Cells} (h1 : ∀ es, a' ≠ .rng es) (h2 : ∀ e, a' ≠ .enum e) (h3 : ∀ x y, a' ≠ .zip x y) : dI Γ a' ρ c = (dE Γ a' ρ c).bind fun x c1 => match x with
    | .tup xs => .ok (xs, []) c1
    | .ref n => (match c1[n]? with
      | some (.lst xs) => .ok (xs, [n]) c1
      | some (.frz xs) => .ok (xs, [n]) c1
      | _ => .no)
    | _ => .no := by
  cases a' <;> first | exact absurd rfl (h1 _) | exact absurd rfl (h2 _) | exact absurd rfl (h3 _ _) | (rw [dI] <;> first | rfl | nofun)
theorem ri_val (he : PE X e (RE X Γ W e')) (h1 : ∀ es, e' ≠ .rng es) (h2 : ∀ a, e' ≠ .enum a) (h3 : ∀ x y, e' ≠ .zip x y) : PI X tg e (RI X Γ W e') := by
  refine ⟨fun pins s σ H R I ⟨ι, ρ, c, hσ, hH, hp⟩ => ?_⟩
  rw [dI_val h1 h2 h3] at hp
  cases q : dE Γ e' ρ c with
  | ok d c1 =>
    rw [q, G.R.bind_ok] at hp
    cases d with
    | tup xs =>
      refine (pi_tup he).run pins s σ H R I ⟨ι, ρ, c, hσ, hH, ?_⟩
      rw [q]
      intro ι' H' e1 h1 v rv
      obtain ⟨ad, vs, rfl, s1, r1⟩ := rv
      exact ⟨ad, rfl, ⟨vs, s1⟩, hp ι' H' e1 h1 _ (walk_tup' s1 r1)⟩
    | ref n =>
      refine (pi_list he).run pins s σ H R I ⟨ι, ρ, c, hσ, hH, ?_⟩
      rw [q]
      intro ι' H' e1 h1 v rv
      obtain ⟨ad, rfl, g1⟩ := rv
      dsimp only at hp
      split at hp
      · rename_i gq
        have gl := getL_lst gq
        obtain ⟨ad', vs, g2, s1, _⟩ := h1.getL gl
        cases g1.inj g2
        exact ⟨ad, rfl, ⟨vs, s1⟩, hp ι' H' e1 h1 _ (walk_lst g1 gl)⟩
      · rename_i gq
        have gl := getL_frz gq
        obtain ⟨ad', vs, g2, s1, _⟩ := h1.getL gl
        cases g1.inj g2
        exact ⟨ad, rfl, ⟨vs, s1⟩, hp ι' H' e1 h1 _ (walk_lst g1 gl)⟩
      · exact hp.elim
    | _ => exact hp.elim
  | ex z c1 =>
    rw [q] at hp
    refine (pi_list he).run pins s σ H R I ⟨ι, ρ, c, hσ, hH, ?_⟩
    rw [q]
    exact hp
  | no => rw [q] at hp; exact hp.elim
theorem rng_get {n : Nat} {f : Nat → D} {i : Nat} {d : D} (h : ((List.range n).map f)[i]? = some d) : i < n ∧ d = f i := by
  rw [List.getElem?_map] at h
  obtain ⟨j, h1, h2⟩ := Option.map_eq_some_iff.mp h
  have hj := List.getElem?_eq_some_iff.mp h1
  obtain ⟨hl, e⟩ := hj
  simp at hl e
  subst e
  exact ⟨hl, h2.symm⟩
theorem walk_rng {K : PySem.W.Frag} {ι : List (Addr × Bool)} {H : Hp} {c : Cells} {lo hi : Int} : Walk K (Itr lo (hi - lo).toNat) ι H c (rngL lo hi) [] := by
  intro ι' H' c' i e1 h1 _
  refine ⟨fun d hd => ?_, fun hl => ?_⟩
  · obtain ⟨hi', rfl⟩ := rng_get hd
    exact ⟨hi', fun x H'' hy => by
      obtain ⟨rfl, rfl⟩ := hy
      exact ⟨.refl, h1, rfl⟩⟩
  · show (hi - lo).toNat ≤ i
    unfold rngL at hl
    simpa using hl
theorem walk_rngD {K : PySem.W.Frag} {ι : List (Addr × Bool)} {H : Hp} {c : Cells} {lo hi : Int} : Walk K (Itc lo (-1) (lo - hi).toNat) ι H c ((List.range (lo - hi).toNat).map fun (k : Nat) => D.int (lo - k)) [] := by
  intro ι' H' c' i e1 h1 _
  refine ⟨fun d hd => ?_, fun hl => ?_⟩
  · obtain ⟨hi', rfl⟩ := rng_get hd
    exact ⟨hi', fun x H'' hy => by
      obtain ⟨rfl, rfl⟩ := hy
      refine ⟨.refl, h1, ?_⟩
      show V.int _ = V.int _
      congr 1
      omega⟩
  · show (lo - hi).toNat ≤ i
    simpa using hl
theorem dI_rng {ρ : Lo} {c : Cells} : dI Γ (.rng es') ρ c = (dEs Γ es' ρ c).bind fun xs c1 => match rngOf xs with
    | some ys => .ok (ys, []) c1
    | none => .no := by first | (rw [dI]; done) | (rw [dI]; rfl)
theorem dEs_len {ρ : Lo} {c' : Cells} : ∀ {es : List IE} {xs : List D} {c : Cells}, dEs Γ es ρ c = .ok xs c' → xs.length = es.length
  | [], xs, c, h => by unfold dEs at h; cases h; rfl
  | e :: es, xs, c, h => by
    unfold dEs at h
    cases q : dE Γ e ρ c with
    | ok d c1 =>
      rw [q, G.R.bind_ok] at h
      cases q2 : dEs Γ es ρ c1 with
      | ok ys c2 =>
        rw [q2, G.R.bind_ok] at h
        cases h
        rw [List.length_cons, List.length_cons, dEs_len q2]
      | ex _ _ => rw [q2] at h; cases h
      | no => rw [q2] at h; cases h
    | ex _ _ => rw [q] at h; cases h
    | no => rw [q] at h; cases h
/-- no star -/
def NoStar (X : Cx) (e : Expr) : Prop := ∀ r, starEach (e :: r) X.env = (false, eval e X.env) :: starEach r X.env
theorem post_rng {σ : St} {ι : List (Addr × Bool)} {H : Hp} {Rr : It → Hp → Prop} {ρ : Lo} {c : Cells} (hp : Post X.K X.mg W σ ι H (dI Γ (.rng es') ρ c) (fun p c' ι' H' => ∀ J, Walk X.K J ι' H' c' p.1 p.2 → Rr J H')) :
    Post X.K X.mg W σ ι H (dEs Γ es' ρ c) fun xs c1 ι1 H1 => xs.length = es'.length ∧ ∃ ys, rngOf xs = some ys ∧ ∀ J, Walk X.K J ι1 H1 c1 ys [] → Rr J H1 := by
  rw [dI_rng] at hp
  have hp' := Post.bind hp
  cases q : dEs Γ es' ρ c with
  | ok xs c1 =>
    rw [q] at hp'
    intro ι' H' e1 h1
    have hz := hp' ι' H' e1 h1
    refine ⟨dEs_len q, ?_⟩
    dsimp only at hz
    split at hz
    · rename_i ys qy
      exact ⟨ys, qy, fun J w => hz.ok h1 J w⟩
    · exact hz.elim
  | ex _ _ => rw [q] at hp'; exact hp'
  | no => rw [q] at hp'; exact hp'
theorem ri_rng1 {p : Pos} {e1 : Expr} {x1 : IE} (hg : Gl X "range") (hm : X.mg "range" = none) (ha : PA X [e1] (RA X Γ W [x1])) (n1 : NoStar X e1) : PI X tg (.Call (.Name "range" p) [e1] [] pos) (RI X Γ W (.rng [x1])) := by
  refine ⟨fun pins s σ H R I ⟨ι, ρ, c, hσ, hH, hp⟩ => (pi_range1 hg hm ha (n1 [])).run pins s σ H R I ⟨ι, ρ, c, hσ, hH, (post_rng hp).imp fun xs c1 ι1 H1 e1 h1 ⟨hlen, ys, q, hR⟩ vs rv => ?_⟩⟩
  unfold rngOf at q
  split at q
  · split at q <;> cases q
    rename_i bb _ hb
    obtain ⟨w, ws, rfl, r1, r2⟩ := rv
    cases r1; cases r2
    refine ⟨_, rfl, hb.1, hb.2, hR _ ?_⟩
    have := walk_rng (K := X.K) (ι := ι1) (H := H1) (c := c1) (lo := 0) (hi := bb)
    simpa using this
  · cases hlen
  · cases hlen
  · cases q
theorem ri_rng2 {p : Pos} {e1 e2 : Expr} {x1 x2 : IE} (hg : Gl X "range") (hm : X.mg "range" = none) (ha : PA X [e1, e2] (RA X Γ W [x1, x2])) (n1 : NoStar X e1) (n2 : NoStar X e2) : PI X tg (.Call (.Name "range" p) [e1, e2] [] pos) (RI X Γ W (.rng [x1, x2])) := by
  refine ⟨fun pins s σ H R I ⟨ι, ρ, c, hσ, hH, hp⟩ => (pi_range2 hg hm ha (by rw [n1, n2]; rfl) (n2 [])).run pins s σ H R I ⟨ι, ρ, c, hσ, hH, (post_rng hp).imp fun xs c1 ι1 H1 e1 h1 ⟨hlen, ys, q, hR⟩ vs rv => ?_⟩⟩
  unfold rngOf at q
  split at q
  · cases hlen
  · split at q <;> cases q
    rename_i hb
    obtain ⟨w, ws, rfl, r1, w2, ws2, rfl, r2, r3⟩ := rv
    cases r1; cases r2; cases r3
    exact ⟨_, _, rfl, hb, hR _ walk_rng⟩
  · cases hlen
  · cases q
theorem ri_rng3 {p : Pos} {e1 e2 e3 : Expr} {x1 x2 x3 : IE} (hg : Gl X "range") (hm : X.mg "range" = none) (ha : PA X [e1, e2, e3] (RA X Γ W [x1, x2, x3])) (n1 : NoStar X e1) (n2 : NoStar X e2) (n3 : NoStar X e3) :
    PI X tg (.Call (.Name "range" p) [e1, e2, e3] [] pos) (RI X Γ W (.rng [x1, x2, x3])) := by
  refine ⟨fun pins s σ H R I ⟨ι, ρ, c, hσ, hH, hp⟩ => (pi_range3 hg hm ha (n1 _) (by rw [n2, n3]; rfl)).run pins s σ H R I ⟨ι, ρ, c, hσ, hH, (post_rng hp).imp fun xs c1 ι1 H1 e1 h1 ⟨hlen, ys, q, hR⟩ vs rv => ?_⟩⟩
  unfold rngOf at q
  split at q
  · cases hlen
  · cases hlen
  · split at q <;> cases q
    rename_i hb
    obtain ⟨w, ws, rfl, r1, w2, ws2, rfl, r2, w3, ws3, rfl, r3, r4⟩ := rv
    cases r1; cases r2; cases r3; cases r4
    exact ⟨_, _, _, _, rfl, RgC.neg hb.1 hb.2.1 hb.2.2.1 hb.2.2.2, hR _ walk_rngD⟩
  · cases q

/-! ### comprehensions -/
theorem rts_nil : PTs X [] (RTs X Γ W []) := ⟨fun pins s σ H Q I ⟨ι, ρ, c, hσ, hH, hp⟩ => pts_nil.run pins s σ H Q I (by
  unfold dT at hp
  exact hp.ok hH)⟩
theorem rts_one (ht : PT X a (RT X Γ W a')) : PTs X [a] (RTs X Γ W [a']) := ⟨fun pins s σ H Q I ⟨ι, ρ, c, hσ, hH, hp⟩ => (pts_one ht).run pins s σ H Q I (by
  unfold dT at hp
  refine ⟨ι, ρ, c, hσ, hH, (Post.bind hp).imp fun x c1 ι1 H1 e1 h1 hp1 => ?_⟩
  split at hp1
  · rename_i q
    unfold dT at hp1
    exact ⟨true, q, hp1.ok h1⟩
  · rename_i q
    exact ⟨false, q, hp1.ok h1⟩
  · exact hp1.elim)⟩
/-- the element of one turn -/
def lcF (Γ : Ctx) (t : Tg) (own : List Nat) (ifs : List IE) (e : IE) (ρ : Lo) : D → Cells → G.R (Option D) := fun x c2 => match asg c2 t x (G.wipe ρ own) with
  | none => .no
  | some ρ' => (match dT Γ ifs ρ' c2 with
    | .ok true c3 => (match dE Γ e ρ' c3 with
      | .ok y c4 => .ok (some y) c4
      | _ => .no)
    | .ok false c3 => .ok none c3
    | _ => .no)
theorem same_trans {ws : List Nat} {c c1 c2 : Cells} (h : same ws c c1 = true) (h2 : same ws c1 c2 = true) : same ws c c2 = true := by
  unfold same at *
  simp only [List.all_eq_true, decide_eq_true_eq] at *
  exact fun n hn => (h n hn).trans (h2 n hn)
theorem same_refl {ws : List Nat} {c : Cells} : same ws c c = true := by
  unfold same; simp
theorem wipe_set {ρ : Lo} {i : Nat} {v : Option D} : ∀ {own : List Nat}, i ∈ own → G.wipe (ρ.set i v) own = G.wipe ρ own
  | j :: r, h => by
    unfold G.wipe
    by_cases e : i ∈ r
    · rw [wipe_set e]
    · have : i = j := by
        rcases List.mem_cons.mp h with h | h
        · exact h
        · exact absurd h e
      subst this
      rw [wipe_out e, List.set_set]
where
  wipe_out {ρ : Lo} {i : Nat} {v : Option D} : ∀ {own : List Nat}, i ∉ own → G.wipe (ρ.set i v) own = (G.wipe ρ own).set i v
    | [], _ => rfl
    | j :: r, h => by
      unfold G.wipe
      have h' : i ≠ j ∧ i ∉ r := by simpa using h
      rw [wipe_out h'.2, List.set_comm _ _ h'.1]
mutual
theorem wipe_asg {c : Cells} : ∀ {t : Tg} {x : D} {ρ ρ' : Lo} {own : List Nat}, asg c t x ρ = some ρ' → (∀ j ∈ tgSlots t, j ∈ own) → G.wipe ρ' own = G.wipe ρ own
  | .v i, x, ρ, ρ', own, h, hs => by
    unfold asg at h
    cases h
    exact wipe_set (hs i (by simp [tgSlots]))
  | .tup ts, .tup xs, ρ, ρ', own, h, hs => wipe_asgs (show asgs c ts xs ρ = some ρ' from h) fun j hj => hs j (by simp [tgSlots]; exact hj)
  | .tup ts, .ref n, ρ, ρ', own, h, hs => by
    have h : (match c[n]? with | some (.lst xs) => asgs c ts xs ρ | _ => none) = some ρ' := h
    split at h
    · exact wipe_asgs h fun j hj => hs j (by simp [tgSlots]; exact hj)
    · cases h
  | .tup ts, .non, ρ, ρ', own, h, hs => by cases (show (none : Option Lo) = some ρ' from h)
  | .tup ts, .bl _, ρ, ρ', own, h, hs => by cases (show (none : Option Lo) = some ρ' from h)
  | .tup ts, .int _, ρ, ρ', own, h, hs => by cases (show (none : Option Lo) = some ρ' from h)
  | .tup ts, .str _, ρ, ρ', own, h, hs => by cases (show (none : Option Lo) = some ρ' from h)
theorem wipe_asgs {c : Cells} : ∀ {t : List Tg} {x : List D} {ρ ρ' : Lo} {own : List Nat}, asgs c t x ρ = some ρ' → (∀ j ∈ tgsSlots t, j ∈ own) → G.wipe ρ' own = G.wipe ρ own
  | [], [], ρ, ρ', own, h, hs => by unfold asgs at h; cases h; rfl
  | [], _ :: _, ρ, ρ', own, h, hs => by unfold asgs at h; cases h
  | _ :: _, [], ρ, ρ', own, h, hs => by unfold asgs at h; cases h
  | t :: ts, x :: xs, ρ, ρ', own, h, hs => by
    unfold asgs at h
    split at h
    · rename_i ρ1 e1
      rw [wipe_asgs h fun j hj => hs j (by simp [tgsSlots]; exact .inr hj)]
      exact wipe_asg e1 fun j hj => hs j (by simp [tgsSlots]; exact .inl hj)
    · cases h
end
theorem wipe_get {σ : St} {i : Nat} : ∀ {own : List Nat}, (L2.wipe σ own)[i]? = if i ∈ own ∧ i < σ.length then some none else σ[i]?
  | [] => by simp [L2.wipe]
  | j :: r => by
    unfold L2.wipe
    by_cases e : i = j
    · subst e
      by_cases hl : i < σ.length
      · rw [List.getElem?_set_self (by rw [L2.wipe_length]; exact hl), if_pos ⟨by simp, hl⟩]
      · rw [List.getElem?_eq_none (by rw [List.length_set, L2.wipe_length]; omega), if_neg (by simp; omega), List.getElem?_eq_none (by omega)]
    · rw [List.getElem?_set_ne (Ne.symm e), wipe_get]
      simp [e]
theorem wipe_keeps {σ σ' : St} {l own : List Nat} (h : Keeps l σ σ') (hs : ∀ j ∈ l, j ∈ own) : L2.wipe σ' own = L2.wipe σ own := by
  refine List.ext_getElem? fun i => ?_
  rw [wipe_get, wipe_get, h.1]
  by_cases hi : i ∈ own
  · by_cases hl : i < σ.length
    · rw [if_pos ⟨hi, hl⟩, if_pos ⟨hi, hl⟩]
    · have hl' : ¬ i < σ'.length := by rw [h.1]; exact hl
      rw [if_neg (by simp [hl]), if_neg (by simp [hl]), List.getElem?_eq_none (Nat.le_of_not_lt hl'), List.getElem?_eq_none (Nat.le_of_not_lt hl)]
  · rw [if_neg (by simp [hi]), if_neg (by simp [hi])]
    exact h.2 i fun z => hi (hs i z)
abbrev W0 : WX := fun _ _ _ _ => False
theorem lc_read {own : List Nat} {t' : Tg} {it' : IE} {ifs' : List IE} (hts : ∀ j ∈ tgSlots t', j ∈ own) {σ : St} {H : Hp} {Q : VK} (h : RE X Γ W (.lc own t' it' ifs' e') σ H Q) :
    tLc (RI X Γ W it') (RG X t') (RTs X Γ W0 ifs') (RE X Γ W0 e') own σ H Q := by
  obtain ⟨ι, ρ, c, hσ, hH, hp⟩ := h
  unfold dE at hp
  have hp : Post X.K X.mg W σ ι H ((dI Γ it' ρ c).bind fun p c1 => (lcGo (lcF Γ t' own ifs' e' ρ) p.2 p.1 c1).bind fun ys c2 => if ys.length ≤ lim then alloc (.lst ys) c2 else .no) fun d _ ι' H' => ∀ v, Rep X.K ι' H' d v → Q v H' := hp
  refine ⟨ι, ρ, c, hσ, hH, (Post.bind hp).imp fun p c1 ι1 H1 e1 h1 hp1 J hw L hL => ?_⟩
  obtain ⟨xs, ws⟩ := p
  dsimp only at hp1 hw
  -- the whole run of the turns
  have noF : ∀ x c z c', lcF Γ t' own ifs' e' ρ x c ≠ .ex z c' := fun x c z c' q => by
    unfold lcF at q
    split at q
    · cases q
    · split at q
      · split at q <;> cases q
      · cases q
      · cases q
  have noG : ∀ (xs : List D) c z c', lcGo (lcF Γ t' own ifs' e' ρ) ws xs c ≠ .ex z c' := fun xs => by
    induction xs with
    | nil => intro c z c' q; unfold lcGo at q; cases q
    | cons x xs ih =>
      intro c z c' q
      unfold lcGo at q
      cases qf : lcF Γ t' own ifs' e' ρ x c with
      | ok o c3 =>
        rw [qf, G.R.bind_ok] at q
        split at q
        · cases q2 : lcGo (lcF Γ t' own ifs' e' ρ) ws xs c3 with
          | ok r c4 => rw [q2, G.R.bind_ok] at q; split at q <;> cases q
          | ex _ _ => exact ih _ _ _ q2
          | no => rw [q2] at q; cases q
        · cases q
      | ex _ _ => exact noF _ _ _ _ qf
      | no => rw [qf] at q; cases q
  cases qall : lcGo (lcF Γ t' own ifs' e' ρ) ws xs c1 with
  | ex _ _ => exact absurd qall (noG _ _ _ _)
  | no => rw [qall] at hp1; exact hp1.elim
  | ok ys c2 =>
  rw [qall, G.R.bind_ok] at hp1
  split at hp1
  case isFalse => exact hp1.elim
  rename_i hlim
  have hLn : (L, true) ∉ ι1 := fun z => by
    obtain ⟨o, q, _⟩ := h1.tracked z
    rw [hL] at q; cases q
  let Nx : Nat → Hp → Prop := fun i H => ∃ ι c dn vs rest, Ext ι1 H1 ι H ∧ HRep X.K ι H c ∧ same ws c1 c = true ∧ H L = some (.lst vs) ∧ (L, true) ∉ ι ∧ Reps X.K ι H dn vs ∧ lcGo (lcF Γ t' own ifs' e' ρ) ws (xs.drop i) c = .ok rest c2 ∧ dn ++ rest = ys
  refine ⟨fun i m H => m = xs.length - i ∧ i ≤ xs.length ∧ Nx i H, ⟨xs.length, by simp, Nat.zero_le _, ι1, c1, [], [], ys, .new hL, h1.new hL, same_refl, upd_same, hLn, rfl, by simpa using qall, rfl⟩, ?_⟩
  rintro i m H5 ⟨rfl, hi, ι5, c5, dn, vs, rest, e5, h5, sm5, hL5, hn5, rd5, q5, hys⟩
  by_cases hlt : i < xs.length
  · have hx : xs[i]? = some xs[i] := List.getElem?_eq_getElem hlt
    obtain ⟨hgo, hyld⟩ := (hw ι5 H5 c5 i e5 h5 sm5).1 _ hx
    refine .inr ⟨hgo, Nx (i + 1), fun H' n' => ⟨xs.length - (i + 1), by omega, rfl, hlt, n'⟩, fun x H6 hy => ?_⟩
    obtain ⟨e6, h6, rx⟩ := hyld x H6 hy
    rw [List.drop_eq_getElem_cons hlt] at q5
    generalize xs[i] = d at q5 rx
    unfold lcGo at q5
    cases qf : lcF Γ t' own ifs' e' ρ d c5 with
    | ex _ _ => exact absurd qf (noF _ _ _ _)
    | no => rw [qf] at q5; cases q5
    | ok o c7 =>
    rw [qf, G.R.bind_ok] at q5
    split at q5
    case isFalse => cases q5
    rename_i sm7
    cases q8 : lcGo (lcF Γ t' own ifs' e' ρ) ws (xs.drop (i + 1)) c7 with
    | ex _ _ => exact absurd q8 (noG _ _ _ _)
    | no => rw [q8] at q5; cases q5
    | ok r8 c8 =>
    rw [q8, G.R.bind_ok] at q5
    unfold lcF at qf
    split at qf
    · cases qf
    rename_i ρ' hasg
    have e56 := e5.trans e6
    refine ⟨ι5, G.wipe ρ own, c5, d, ρ', (hσ.mono (e1.trans e56)).wipe own, h6, rx, hasg, fun σ2 hσ2 kp => ⟨?_, ι5, ρ', c5, hσ2, h6, ?_⟩⟩
    · have := wipe_keeps kp hts
      rw [this]
      refine List.ext_getElem? fun j => ?_
      rw [wipe_get, wipe_get, L2.wipe_length]
      by_cases hj : j ∈ own ∧ j < σ.length
      · rw [if_pos hj, if_pos hj]
      · rw [if_neg hj, if_neg hj]
    · obtain ⟨k1, k2⟩ := e6.stay hL5 hn5
      cases qt : dT Γ ifs' ρ' c5 with
      | ex _ _ => rw [qt] at qf; cases qf
      | no => rw [qt] at qf; cases qf
      | ok bt c9 =>
      rw [qt] at qf
      intro ι9 H9 e9 h9
      obtain ⟨k3, k4⟩ := e9.stay k1 k2
      cases bt with
      | false =>
        dsimp only at qf
        cases qf
        dsimp only at q5
        cases q5
        simp only [Bool.false_eq_true, if_false]
        exact ⟨ι9, _, dn, vs, _, e56.trans e9, h9, same_trans sm5 sm7, k3, k4, (rd5.mono e6).mono e9, q8, hys⟩
      | true =>
        dsimp only at qf
        simp only [if_true]
        cases qe : dE Γ e' ρ' c9 with
        | ex _ _ => rw [qe] at qf; cases qf
        | no => rw [qe] at qf; cases qf
        | ok y c10 =>
        rw [qe] at qf
        dsimp only at qf
        cases qf
        dsimp only at q5
        cases q5
        refine ⟨ι9, ρ', c9, hσ2.mono e9, h9, ?_⟩
        rw [qe]
        intro ι10 H10 e10 h10 yv ry
        obtain ⟨k5, k6⟩ := e10.stay k3 k4
        have hlen : dn.length < lim := by
          have := congrArg List.length hys
          rw [List.length_append, List.length_cons] at this
          omega
        refine ⟨vs, k5, by rw [rd5.length, ← lim_eq]; exact hlen, ?_⟩
        obtain ⟨g1, g2, g3⟩ := h10.other (o := .lst (vs ++ [yv])) k5 k6
        refine ⟨ι10, _, dn ++ [y], vs ++ [yv], _, ((e56.trans e9).trans e10).upd hL, g1, same_trans sm5 sm7, upd_same, k6, g3 _ _ ((((rd5.mono e6).mono e9).mono e10).append (.one ry)), q8, by rw [List.append_assoc]; exact hys⟩
  · have e' : i = xs.length := by omega
    subst e'
    refine .inl ⟨(hw ι5 H5 c5 _ e5 h5 sm5).2 (Nat.le_refl _), ?_⟩
    rw [List.drop_length] at q5
    unfold lcGo at q5
    cases q5
    rw [List.append_nil] at hys
    subst hys
    obtain ⟨g1, g2⟩ := h5.adopt hL5 hn5 rd5
    exact hp1 _ H5 (e5.more hL) g1 _ ⟨L, rfl, g2⟩
/-- a comprehension's block -/
theorem Ok.blk (ok : Ok X g N sc Γ W k) {scope : Scope} {s : Shared} {H : Hp} {C : Addr} {cl : List (Str × Addr)} {fp : List Addr} : Ok (X.blk s H scope (compEnvC scope cl C X.env) fp) g.nc N (relC scope sc) Γ W0 k :=
  ⟨ok.hN, ok.nd, by rw [← ok.hsc]; rfl, ok.calm, L2.takes0, PassesOwn.never, ok.room, ok.cst, ok.blt, ok.fns, ok.pls, ok.gds, ok.exc, ok.hex, ok.thks, nofun⟩
theorem Ok.blkT (ok : Ok X g N sc Γ W k) {scope : Scope} {s : Shared} {H : Hp} {C : Addr} {cl : List (Str × Addr)} {fp : List Addr} : TOk (X.blk s H scope (compEnvC scope cl C X.env) fp) N scope :=
  ⟨ok.hN, ok.nd, ok.calm, fun x h => by
    have h' := loc_of h
    have keep : ∀ kd : NameKind, kd ≠ .free → scope.names.lookup x = some kd → (relabel scope X.env).names.lookup x = some kd := fun kd hk e => lookup_relS_keep (sc := X.env.scope) hk e
    rcases h' with h' | h'
    · exact ⟨.inl (keep _ (by decide) h'), .inr (keep _ (by decide) h')⟩
    · exact ⟨.inr (keep _ (by decide) h'), .inl (by
        show (scope.names.lookup x == some .cell) = true
        rw [h']; rfl)⟩⟩
theorem blk_ok {N : List Str} {sc scope : Scope} {own : List (Str × Nat)} (h : blkB N sc scope own = true) : BlkOk N sc scope own := blkOk_by h
end
end G
end

section
set_option Elab.async false
set_option linter.all false
set_option maxRecDepth 100000
set_option maxHeartbeats 4000000
set_option autoImplicit false
/-! GLam: except clauses, lambdas handed to a def that calls them. -/
namespace G
open PySem L2
variable [Tables]
def vD : D → V
  | .bl b => .bl b
  | .int i => .int i
  | .str x => .str x
  | _ => .non
theorem pe_kD {X : Cx} {e : Expr} {d : D} (h : kD e = some d) : PE X e (tC (vD d)) ∧ ∀ (K : PySem.W.Frag) (ι : List (Addr × Bool)) (H : Hp), Rep K ι H d (vD d) := by
  unfold kD at h
  split at h
  · cases h; exact ⟨pe_non, fun _ _ _ => rfl⟩
  · cases h; exact ⟨pe_bl, fun _ _ _ => rfl⟩
  · cases h; exact ⟨pe_int, fun _ _ _ => rfl⟩
  · cases h; exact ⟨pe_str, fun _ _ _ => rfl⟩
  · cases h
theorem rep_kD {e : Expr} {d : D} (h : kD e = some d) (K : PySem.W.Frag) (ι : List (Addr × Bool)) (H : Hp) : Rep K ι H d (vD d) := by
  unfold kD at h
  split at h <;> cases h <;> rfl
theorem exc_names {X : Cx} {sc : Scope} {ex : List String} {x : Str} {y : String} (hsc : X.env.scope = sc) (E : ExcOk X.K X.mg ex) (h : excN ex sc x = some y) : y ∈ ex ∧ ∃ C : Addr, X.mg (Str.ofString y) = some (.ref C) ∧ Names X x (.ref C) ∧ Gl X x ∧ Str.ofString y = x ∧ plainN x = true := by
  unfold excN at h
  split at h
  · rename_i h1
    split at h
    · rename_i h2
      obtain ⟨q1, q2⟩ := look_get h
      obtain ⟨C, hC⟩ := E.cls y q2
      have hg : Gl X x := gl_of (by rw [hsc]; exact h1)
      exact ⟨q2, C, hC, ⟨hg, plain_dbg h2, .inl (by rw [← q1]; exact hC)⟩, hg, q1, h2⟩
    · cases h
  · cases h
/-- the clauses, and what they make of an own exception -/
theorem hds_ok {X : Cx} {sc : Scope} {ex : List String} (hsc : X.env.scope = sc) (E : ExcOk X.K X.mg ex) : ∀ (hs : List ExceptHandler) (l : List (String × D)), cHs ex sc hs = some l → ∃ L, HdsOk X hs L ∧
    ∀ (Wout : WX) (D : Ends) (x : String) (C : Addr) (dd : Option Addr) (σ : St) (H : Hp), x ∈ ex → X.mg (Str.ofString x) = some (.ref C) →
      (∀ d, l.lookup x = some d → D.rt (vD d) H → wMany X.K Wout D L (.ref C) dd σ H) ∧ (l.lookup x = none → Wout (.ref C) dd σ H → wMany X.K Wout D L (.ref C) dd σ H)
  | [], l, h => by
    cases h
    exact ⟨[], .nil, fun Wout D x C dd σ H h1 h2 => ⟨fun d z => by (cases z), fun _ w => w⟩⟩
  | hd :: hs, l, h => by
    unfold cHs at h
    obtain ⟨p, r, h1, h2, rfl⟩ := o2_some h
    obtain ⟨L, k1, k2⟩ := hds_ok hsc E hs r h2
    unfold cH at h1
    split at h1
    · rename_i x p1 e p2 p3
      obtain ⟨y, d, h3, h4, rfl⟩ := o2_some h1
      obtain ⟨hy, C, hC, hn, _⟩ := exc_names hsc E h3
      refine ⟨(.ref C, fun _ _ _ => tRet (tC (vD d))) :: L, .cons hn (fun a oe cls d' pn _ _ => pss_one (ps_ret (pe_kD h4).1)) k1, fun Wout D z Cz dd σ H hz hCz => ?_⟩
      have one := E.one z hz y hy Cz C hCz hC
      obtain ⟨m1, m2⟩ := k2 Wout D z Cz dd σ H hz hCz
      by_cases e1 : z = y
      · subst e1
        have lk : List.lookup z ((z, d) :: r) = some d := by rw [List.lookup_cons, beq_self_eq_true]
        refine ⟨fun d' hd' hq => ⟨true, by rw [one]; simp, fun _ a _ => ?_, fun q => by cases q⟩, fun hq => by rw [lk] at hq; cases hq⟩
        rw [lk] at hd'
        cases hd'
        exact hq
      · have lk : List.lookup z ((y, d) :: r) = r.lookup z := by rw [List.lookup_cons, beq_false_of_ne e1]
        refine ⟨fun d' hd' hq => ⟨false, by rw [one]; simp [e1], fun q => by (cases q), fun _ => m1 d' (by rw [← lk]; exact hd') hq⟩, fun hn hq => ⟨false, by rw [one]; simp [e1], fun q => by (cases q), fun _ => m2 (by rw [← lk]; exact hn) hq⟩⟩
    · cases h1
/-- what a def of this kind makes of a call's reading -/
def TThk (mg : Str → Option Value) (ex : List String) (t : Thk) : (XK → Hp → VK → Prop) → Hp → VK → Prop := fun tl H Q =>
  tl (fun cls _ H' => ∃ (x : String) (C : Addr) (d : D), x ∈ ex ∧ mg (Str.ofString x) = some (.ref C) ∧ cls = .ref C ∧ t.hs.lookup x = some d ∧ Q (vD d) H') H fun _ H' => Q (vD t.d) H'
theorem act_some {a : Str} {e : Expr} (h : isAct a e = true) : ∃ p1 p2, e = .Call (.Name a p1) [] [] p2 := by
  unfold isAct at h
  split at h
  · rename_i x p1 p2
    cases beq_iff_eq.mp h
    exact ⟨p1, p2, rfl⟩
  · cases h
theorem thk_gives {X : Cx} {Ng : List Str} {x a q : Str} {sg : Scope} {g : Addr} {cdg : Value} {bg : List Stmt} {ex : List String} {t : Thk} (E : ExcOk X.K X.mg ex) (h : cThk ex sg a bg = some t) (h0 : ∀ f : Addr, (L2.start Ng [V.ref f])[0]? = some (some (V.ref f))) :
    LamX.GivesTo X Ng x sg g cdg bg a q (TThk X.mg ex t) := by
  intro f c' s H Q tl act hc hq
  have hsw : ∀ (p1 p2 p3 : Pos), swapsWith (.Call (.Name a p1) [] [] p2) none p3.line (cxOf C8.CX0 X.prog X.w X.K X.mg X.base Ng x sg g cdg X.A X.stack s H C8.E0).nox.env = pure false := fun _ _ _ => rfl
  unfold cThk at h
  split at h
  · rename_i c pc h1' hs pt e pr
    split at h
    · rename_i ha
      obtain ⟨p1, p2, rfl⟩ := act_some ha
      obtain ⟨l, d, h1, h2, rfl⟩ := o2_some h
      obtain ⟨L, k1, k2⟩ := hds_ok (X := (cxOf C8.CX0 X.prog X.w X.K X.mg X.base Ng x sg g cdg X.A X.stack s H C8.E0).nox) rfl E (h1' :: hs) l h1
      refine ⟨_, pss_cons (ps_try_many (X := (cxOf C8.CX0 X.prog X.w X.K X.mg X.base Ng x sg g cdg X.A X.stack s H C8.E0).nox)
        (tb := fun W D σ H => ∃ Ech : XK, (∀ cls d σ' H', Ech cls d H' → W cls d σ' H') ∧ σ[0]? = some (some (.ref f)) ∧ H c' = some (LamX.CodeO c' q) ∧ tl Ech H fun _ H' => D.nx σ H')
        rfl rfl LamX.takes0 (fun W pn xe tk _ => ?_) k1) (pss_one (ps_ret (pe_kD h2).1)), ?_⟩
      · refine ⟨fun pins s' σ H' D I h' => ?_⟩
        obtain ⟨Ech, hW, g1, g2, g3⟩ := h'
        have hp := act W pn xe Ech p1 p2 tk hW
        exact (pss_one (ps_expr hp (hsw _ _ _))).run pins s' σ H' D I ⟨g1, g2, g3⟩
      · refine ⟨_, ?_, h0 f, hc, hq⟩
        rintro cls dd σ' H' ⟨y, C, d', hy, hC, rfl, hl, hq'⟩
        exact (k2 _ _ y C dd σ' H' hy hC).1 d' hl hq'
    · cases h
  · rename_i c pc e pr h1' hs pt
    split at h
    · rename_i ha
      obtain ⟨p1, p2, rfl⟩ := act_some ha
      obtain ⟨l, d, h1, h2, rfl⟩ := o2_some h
      obtain ⟨L, k1, k2⟩ := hds_ok (X := (cxOf C8.CX0 X.prog X.w X.K X.mg X.base Ng x sg g cdg X.A X.stack s H C8.E0).nox) rfl E (h1' :: hs) l h1
      refine ⟨_, pss_one (ps_try_many (X := (cxOf C8.CX0 X.prog X.w X.K X.mg X.base Ng x sg g cdg X.A X.stack s H C8.E0).nox)
        (tb := fun W D σ H => ∃ Ech : XK, (∀ cls d σ' H', Ech cls d H' → W cls d σ' H') ∧ σ[0]? = some (some (.ref f)) ∧ H c' = some (LamX.CodeO c' q) ∧ tl Ech H fun _ H' => D.rt (vD d) H')
        rfl rfl LamX.takes0 (fun W pn xe tk _ => ?_) k1), ?_⟩
      · refine ⟨fun pins s' σ H' D I h' => ?_⟩
        obtain ⟨Ech, hW, g1, g2, g3⟩ := h'
        have hp := act W pn xe Ech p1 p2 tk hW
        exact (pss_cons (ps_expr hp (hsw _ _ _)) (pss_one (ps_ret (pe_kD h2).1))).run pins s' σ H' D I ⟨g1, g2, g3⟩
      · refine ⟨_, ?_, h0 f, hc, hq⟩
        rintro cls dd σ' H' ⟨y, C, d', hy, hC, rfl, hl, hq'⟩
        exact (k2 _ _ y C dd σ' H' hy hC).1 d' hl hq'
    · cases h
  · cases h
theorem cHs_vD {ex : List String} {sc : Scope} : ∀ {hs : List ExceptHandler} {l : List (String × D)}, cHs ex sc hs = some l → ∀ y d, l.lookup y = some d → ∀ (K : PySem.W.Frag) (ι : List (Addr × Bool)) (H : Hp), Rep K ι H d (vD d)
  | [], l, h, y, d, hd => by cases h; cases hd
  | hh :: hs, l, h, y, d, hd => by
    unfold cHs at h
    obtain ⟨p, r, h1, h2, rfl⟩ := o2_some h
    unfold cH at h1
    split at h1
    · obtain ⟨z, d', h3, h4, rfl⟩ := o2_some h1
      rw [List.lookup_cons] at hd
      split at hd
      · cases hd; exact rep_kD h4
      · exact cHs_vD h2 y d hd
    · cases h1
theorem cThk_vD {ex : List String} {sg : Scope} {a : Str} {bg : List Stmt} {t : Thk} (h : cThk ex sg a bg = some t) : (∀ (K : PySem.W.Frag) (ι : List (Addr × Bool)) (H : Hp), Rep K ι H t.d (vD t.d)) ∧ ∀ y d, t.hs.lookup y = some d → ∀ (K : PySem.W.Frag) (ι : List (Addr × Bool)) (H : Hp), Rep K ι H d (vD d) := by
  unfold cThk at h
  split at h
  · split at h
    · obtain ⟨l, d, h1, h2, rfl⟩ := o2_some h
      exact ⟨rep_kD h2, cHs_vD h1⟩
    · cases h
  · split at h
    · obtain ⟨l, d, h1, h2, rfl⟩ := o2_some h
      exact ⟨rep_kD h2, cHs_vD h1⟩
    · cases h
  · cases h
section
variable {X : Cx} {g : GI} {N : List Str} {sc : Scope} {Γ : Ctx} {W : WX} {k : Nat} {pos : Pos}
theorem noArgs_eq {a : Arguments} (h : noArgs a = true) : a = ⟨[], [], none, [], [], none, []⟩ := by
  unfold noArgs at h
  split at h
  · rfl
  · cases h
/-- a heap behind the making of a lambda -/
theorem lam_ext {ι : List (Addr × Bool)} {H H1 : Hp} {K : PySem.W.Frag} {c : Cells} (h : HRep K ι H c) (e : LamX.ExtN H H1) (t : LamX.Tabs Tables.T H1) : Ext ι H ι H1 ∧ HRep K ι H1 c := by
  have ex : Ext ι H ι H1 := ⟨⟨[], by simp, by simp⟩, fun b vs q => e b _ q (fun ps z => nomatch z), fun b o u q => e b _ q (fun ps z => nomatch z), fun b o q _ n => e b o q n, fun b n u q => by
    cases u with
    | tbl ps => exact ⟨ps, rfl⟩
    | _ =>
      obtain ⟨ps, z⟩ := n _ (e b _ q (fun ps z => nomatch z))
      cases z⟩
  refine ⟨ex, h.len, h.inj, fun n a w x h1 h2 => ⟨(h.cel n a w x h1 h2).1.mono ex fun m => ?_, (h.cel n a w x h1 h2).2⟩, t⟩
  obtain ⟨o, h3, h4⟩ := (h.cel n a w x h1 h2).1.some m
  rw [h3]
  exact e a o h3 (fun ps z => by subst z; exact h4)
theorem re_lam (ok : Ok X g N sc Γ W k) (hl : g.lam = true) {f : String} {x : Str} {p lp : Pos} {args : Arguments} {body : Expr} {b' : IE} {scope : Scope} (hf : f ∈ g.thks) (hx : Str.ofString f = x) (hg : Gl X x) (hd : plainN x = true) (hS : LamX.lamSB sc scope = true) (ha : noArgs args = true)
    (hb : ∀ (A : Around) (outer : List Env) (s : Shared) (H : Hp) (E : XK) (f c' : Addr), Room k (A.deeper (LamX.lamEnv X scope s.heap.objs.size f c')) → PE (LamX.lamCx X A outer s H E scope f c') body (RE X Γ (fun cls d _ H => E cls d H) b')) :
    PE X (.Call (.Name x p) [.Lambda args body scope lp] [] pos) (RE X Γ W (.lam f b')) := by
  obtain ⟨t, ht, ga, a, pg, bg, sg, dV, kV, doc, pm, cdv, ct, oc, an, od, osl, Ng, h1, h2, h3, h4, h5, h6, h7, h8, h9⟩ := ok.thks f hf
  obtain ⟨hr, c, P, d1, d2, d3, d4⟩ := ok.deep hl
  subst hx
  cases noArgs_eq ha
  have h0 : ∀ f : Addr, (L2.start Ng [V.ref f])[0]? = some (some (V.ref f)) := fun f => by
    cases Ng with
    | nil => cases h7
    | cons n r => rfl
  have hv : Vis sg a := by
    rcases h6.par a List.mem_cons_self with z | z
    · exact .inl z
    · exact .inr (.inl z)
  refine PE.imp (LamX.pe_lamcall (T := Tables.T) (t := fun E => RE X Γ (fun cls d _ H => E cls d H) b') hg h1 h2 h3 h4 h5 h6 h7 hv (thk_gives ok.exc h9 h0) d2 d1 d3 d4 hr (LamX.lamS_by (by rw [ok.hsc]; exact hS)) rfl (fun _ _ _ _ _ => rfl) hb (plain_dbg hd) (plain_dbg h8) (plain_cd h8)) fun σ H Q ⟨ι, ρ, c, hσ, hH, hp⟩ => ?_
  refine ⟨hH.tab, fun H1 eN T1 => ?_⟩
  obtain ⟨ex, hH1⟩ := lam_ext hH eN T1
  unfold dE at hp
  rw [ht] at hp
  dsimp only at hp
  refine ⟨ι, ρ, c, hσ.mono ex, hH1, ?_⟩
  cases q : dE Γ b' ρ c with
  | ok dd c1 =>
    rw [q] at hp
    dsimp only at hp
    intro ι2 H2 e2 h2 v rv
    have := hp ι2 H2 (ex.trans e2) h2
    exact this _ ((cThk_vD h9).1 _ _ _)
  | ex y c1 =>
    rw [q] at hp
    dsimp only at hp
    split at hp
    · rename_i hy
      rw [ok.hex] at hy
      split at hp
      · rename_i d hd'
        intro ι2 H2 C e2 h2 hC
        exact ⟨y, C, d, hy, hC, rfl, hd', hp ι2 H2 (ex.trans e2) h2 _ ((cThk_vD h9).2 _ _ hd' _ _ _)⟩
      · exact hp.elim
    · exact hp.elim
  | no => rw [q] at hp; exact hp.elim
end
end G
end

section
set_option Elab.async false
set_option linter.all false
set_option maxRecDepth 100000
set_option maxHeartbeats 4000000
set_option autoImplicit false
/-! GMain: whatever the check takes does what the evaluator says. -/
namespace G
open PySem L2
variable [Tables]
section
variable {g : GI} {N : List Str} {Γ : Ctx} {k : Nat}
theorem no_slice {sc : Scope} {b : Expr} {b' : IE} (h : cE g N sc b = some b') : PlainIx b := by
  cases b with
  | Slice => unfold cE at h; cases h
  | _ => intro o i; rfl
theorem no_star {X : Cx} {sc : Scope} {b : Expr} {b' : IE} (h : cE g N sc b = some b') : NoStar X b := by
  cases b with
  | Starred => unfold cE at h; cases h
  | _ => intro r; rfl
theorem no_mark {sc : Scope} {b : Expr} {b' : IE} {o : CmpOp} (h : cE g N sc b = some b') : behindInMarks o b = false := by
  cases b with
  | Set => unfold cE at h; cases h
  | _ => rfl
theorem no_fold {X : Cx} {sc : Scope} {b : Expr} {b' : IE} (h : cE g N sc b = some b') : ∀ x, foldedSetIterable b X.env x = pure x := by
  cases b with
  | Set => unfold cE at h; cases h
  | _ => intro x; rfl
theorem base_of {X : Cx} {sc : Scope} {o : Expr} {o' : IE} {name : Str} (h : cE g N sc o = some o') : attributeBase o name X.env (eval o X.env) = eval o X.env := by
  cases o with
  | Call f as kws p =>
    cases f with
    | Name id p2 =>
      cases as with
      | nil =>
        cases kws with
        | nil =>
          unfold cE at h
          split at h
          · split at h
            · split at h
              · rename_i hp
                have hs := plain_super hp
                unfold attributeBase
                simp [bne, hs]
              · cases h
            · cases h
          · cases h
        | cons => rfl
      | cons => rfl
    | _ => rfl
  | _ => rfl
theorem blt_boot : ∀ p ∈ bltOf, bootBuiltins (Str.ofString p.1) = some (bltVal p.2) := by decide +kernel
theorem boot_repr : bootBuiltins (Str.ofString "repr") = some (bltVal .repr) := by decide +kernel
theorem blt_norepr : ∀ p ∈ bltOf, p.2 ≠ .repr := by decide
theorem boot_isi : bootBuiltins (Str.ofString "isinstance") = some (.builtin "isinstance") := by decide +kernel
theorem star_false {X : Cx} {pos : Pos} : ∀ {es : List Expr} {sc : Scope} {es' : List IE}, cEs g N sc es = some es' → (backTo pos (starEach es X.env)).any (·.1) = false ∧ (backTo pos (starEach es X.env)).all (fun x => !x.1) = true
  | [], _, _, _ => ⟨rfl, rfl⟩
  | e :: es, sc, es', h => by
    unfold cEs at h
    obtain ⟨x, xs, h1, h2, rfl⟩ := o2_some h
    rw [no_star (X := X) h1 es]
    obtain ⟨q1, q2⟩ := star_false (X := X) (pos := pos) h2
    exact ⟨by show (false || (backTo pos (starEach es X.env)).any (·.1)) = false; rw [q1]; rfl, by show (!false && (backTo pos (starEach es X.env)).all fun x => !x.1) = true; rw [q2]; rfl⟩
structure Snd (X : Cx) (Γ : Ctx) (W : WX) (e : Expr) (e' : IE) : Prop where
  pe : PE X e (RE X Γ W e')
  pt : PT X e (RT X Γ W e')
  pi : ∀ tg, PI X tg e (RI X Γ W e')
/-- no walk of a kind of its own -/
def NoWalk (e' : IE) : Prop := (∀ es, e' ≠ .rng es) ∧ (∀ a, e' ≠ .enum a) ∧ ∀ x y, e' ≠ .zip x y
theorem Snd.mk' {X : Cx} {W : WX} {e : Expr} {e' : IE} (pe : PE X e (RE X Γ W e')) (pt : PT X e (RT X Γ W e')) (nw : NoWalk e') : Snd X Γ W e e' := ⟨pe, pt, fun _ => ri_val pe nw.1 nw.2.1 nw.2.2⟩
theorem Snd.plain {X : Cx} {W : WX} {e : Expr} {e' : IE} (pe : PE X e (RE X Γ W e')) (he : ∀ whole, isTrue e X.env whole = (do let v ← whole; standAt e.pos; holding [v] (truthy v))) (nw : NoWalk e') : Snd X Γ W e e' :=
  .mk' pe (rt_plain pe he) nw
/-- what is said of nothing -/
theorem Snd.void {X : Cx} {W : WX} {e : Expr} {e' : IE} (h : ∀ ρ c, dE Γ e' ρ c = .no) (pi : ∀ tg, PI X tg e (RI X Γ W e')) : Snd X Γ W e e' :=
  ⟨⟨fun _ _ _ _ _ _ ⟨_, ρ, c, _, _, hp⟩ => by rw [h] at hp; exact hp.elim⟩, ⟨fun _ _ _ _ _ _ ⟨_, ρ, c, _, _, hp⟩ => by rw [h] at hp; exact hp.elim⟩, pi⟩
theorem pi_void {X : Cx} {W : WX} {e tg : Expr} {e' : IE} (h : ∀ ρ c, dI Γ e' ρ c = .no) : PI X tg e (RI X Γ W e') := ⟨fun _ _ _ _ _ _ ⟨_, ρ, c, _, _, hp⟩ => by rw [h] at hp; exact hp.elim⟩
theorem cN_walk {sc : Scope} {x : Str} {e' : IE} (h : cN g N sc x = some e') : NoWalk e' := by
  unfold cN at h
  split at h
  · split at h
    · obtain ⟨i, _, rfl⟩ := o1_some h; exact ⟨nofun, nofun, nofun⟩
    · split at h
      · split at h
        · cases h; exact ⟨nofun, nofun, nofun⟩
        · obtain ⟨i, _, rfl⟩ := o1_some h; exact ⟨nofun, nofun, nofun⟩
      · cases h
  · cases h
theorem cK_walk {c : Const} {e' : IE} (h : cK c = some e') : NoWalk e' := by
  unfold cK at h
  split at h <;> cases h <;> exact ⟨nofun, nofun, nofun⟩
theorem pe_never {X : Cx} {W : WX} {e : Expr} {e' : IE} (h : ∀ ρ c, dE Γ e' ρ c = .no) : PE X e (RE X Γ W e') := ⟨fun _ _ _ _ _ _ ⟨_, ρ, c, _, _, hp⟩ => by rw [h] at hp; exact hp.elim⟩

/-- the same of each of some expressions -/
inductive SndL (X : Cx) (Γ : Ctx) (W : WX) (g : GI) (N : List Str) (sc : Scope) : List Expr → Prop where
  | nil : SndL X Γ W g N sc []
  | cons {e : Expr} {es : List Expr} (h : ∀ e', cE g N sc e = some e' → Snd X Γ W e e') (t : SndL X Γ W g N sc es) : SndL X Γ W g N sc (e :: es)
theorem SndL.pa {X : Cx} {W : WX} {sc : Scope} {es : List Expr} (s : SndL X Γ W g N sc es) : ∀ {es' : List IE}, cEs g N sc es = some es' → PA X es (RA X Γ W es') := by
  induction s with
  | nil => intro es' h; unfold cEs at h; cases h; exact ra_nil
  | cons h t ih =>
    intro es' h'
    unfold cEs at h'
    obtain ⟨x, xs, h1, h2, rfl⟩ := o2_some h'
    exact ra_cons (no_star h1 _) (h x h1).pe (ih h2)
theorem SndL.one {X : Cx} {W : WX} {sc : Scope} {es : List Expr} {y : IE} (s : SndL X Γ W g N sc es) (h : cEs g N sc es = some [y]) : ∃ b, es = [b] ∧ cE g N sc b = some y ∧ Snd X Γ W b y := by
  cases s with
  | nil => unfold cEs at h; cases h
  | cons h0 t =>
    unfold cEs at h
    obtain ⟨x, xs, h1, h2, h3⟩ := o2_some h
    cases h3
    cases t with
    | nil => exact ⟨_, rfl, h1, h0 _ h1⟩
    | cons h4 t => unfold cEs at h2; obtain ⟨_, _, _, _, z⟩ := o2_some h2; cases z
theorem SndL.two {X : Cx} {W : WX} {sc : Scope} {es : List Expr} {y z : IE} (s : SndL X Γ W g N sc es) (h : cEs g N sc es = some [y, z]) : ∃ b c, es = [b, c] ∧ cE g N sc b = some y ∧ cE g N sc c = some z ∧ Snd X Γ W b y ∧ Snd X Γ W c z := by
  cases s with
  | nil => unfold cEs at h; cases h
  | cons h0 t =>
    unfold cEs at h
    obtain ⟨x, xs, h1, h2, h3⟩ := o2_some h
    cases h3
    obtain ⟨c, rfl, h4, h5⟩ := t.one h2
    exact ⟨_, c, rfl, h1, h4, h0 _ h1, h5⟩
theorem few_some {o : Option (List String)} {ts : List String} (h : few o = some ts) : o = some ts ∧ ts.length ≤ 100 := by
  unfold few at h
  split at h
  · split at h
    · cases h; exact ⟨rfl, by assumption⟩
    · cases h
  · cases h
theorem live_some {o : Option IE} {e : IE} (h : live o = some e) : o = some e ∧ e ≠ .no := by
  unfold live at h
  split at h
  · cases h
  · rename_i hn; exact ⟨h, fun z => hn (by rw [h, z])⟩
theorem SndL.all {X : Cx} {W : WX} {sc : Scope} {e : Expr} {es : List Expr} (s : SndL X Γ W g N sc (e :: es)) : (∀ e', cE g N sc e = some e' → Snd X Γ W e e') ∧ SndL X Γ W g N sc es := by
  cases s with
  | cons h t => exact ⟨h, t⟩
theorem glX {X : Cx} {sc : Scope} {W : WX} (ok : Ok X g N sc Γ W k) {x : Str} (h : glB sc x = true) : Gl X x := gl_of (by rw [ok.hsc]; exact h)
theorem blt_mem {X : Cx} {sc : Scope} {W : WX} (ok : Ok X g N sc Γ W k) {x : Str} {b : String} (h : look bltNames x = some b) : X.mg x = none := ok.blt x b h
theorem cEs_nil {sc : Scope} {as : List Expr} {es : List IE} (h : cEs g N sc as = some es) : as = [] ↔ es = [] := by
  cases as with
  | nil => unfold cEs at h; cases h; exact ⟨fun _ => rfl, fun _ => rfl⟩
  | cons a as => unfold cEs at h; obtain ⟨_, _, _, _, rfl⟩ := o2_some h; exact ⟨nofun, nofun⟩
theorem tyE_some {sc : Scope} {x : Str} {p : Pos} {t : String} (h : tyE sc (.Name x p) = some t) : (plainN x = true ∧ glB sc x = true) ∧ look bltTys x = some t := by
  have h : (if (plainN x && glB sc x) = true then look bltTys x else none) = some t := h
  by_cases hh : (plainN x && glB sc x) = true
  · rw [if_pos hh] at h
    simp only [Bool.and_eq_true] at hh
    exact ⟨hh, h⟩
  · rw [if_neg hh] at h; cases h
/-- a call of a global name -/
theorem snd_call {X : Cx} {sc : Scope} {W : WX} (ok : Ok X g N sc Γ W k) {f : Str} {p pos : Pos} {as : List Expr} {es : List IE} {e' : IE} (hs : SndL X Γ W g N sc as) (hes : cEs g N sc as = some es) (hgl : glB sc f = true) (hpl : plainN f = true)
    (h : cCall g sc f as es = some e') : Snd X Γ W (.Call (.Name f p) as [] pos) e' := by
  unfold cCall at h
  split at h
  · rename_i fn hf
    cases h
    obtain ⟨q1, q2⟩ := look_get hf
    cases as with
    | nil =>
      unfold cEs at hes
      cases hes
      exact .plain (re_call0 ok q2 q1 (glX ok hgl) (plain_dbg hpl)) (by intro _; rfl) ⟨nofun, nofun, nofun⟩
    | cons a as =>
      have ha := hs.pa hes
      have hes' := hes
      unfold cEs at hes'
      obtain ⟨x, xs, h1, h2, rfl⟩ := o2_some hes'
      exact .plain (re_call ok q2 q1 (glX ok hgl) (plain_dbg hpl) ha (no_star h1 _) (star_false h2).1) (by intro _; rfl) ⟨nofun, nofun, nofun⟩
  · split at h
    · cases h
    rename_i b hb
    have hm := blt_mem ok hb
    obtain ⟨q1, q2⟩ := look_get hb
    split at h
    · -- isinstance
      rename_i e
      subst e
      unfold cIsi at h
      split at h
      · rename_i as1 es1 ex cx ev ev2
        obtain ⟨b1, c1, z, h1, h2, s1, s2⟩ := hs.two hes
        cases z
        cases cx
        case Tuple ts j p3 =>
          dsimp only at h
          obtain ⟨tl, h3, rfl⟩ := o1_some h
          obtain ⟨h4, h5⟩ := few_some h3
          exact .plain (re_isiT ok h4 (glX ok hgl) hpl hm (by rw [← q1]; exact boot_isi) h5 s1.pe (no_star h1 _)) (by intro _; rfl) ⟨nofun, nofun, nofun⟩
        all_goals first
          | (exfalso; dsimp only at h; obtain ⟨t, h3, _⟩ := o1_some h; unfold tyE at h3; cases h3; done)
          | skip
        rename_i xn px
        dsimp only at h
        obtain ⟨t, h3, rfl⟩ := o1_some h
        obtain ⟨hh, h6⟩ := tyE_some h3
        obtain ⟨q3, q4⟩ := pe_type (pos := px) ok hh.1 hh.2 h6
        exact .plain (re_isi ok q4 (glX ok hgl) hpl hm (by rw [← q1]; exact boot_isi) q3 s1.pe (no_star h1 _) rfl rfl) (by intro _; rfl) ⟨nofun, nofun, nofun⟩
      · cases h
    · split at h
      · -- range
        rename_i e
        subst e
        have hf : f = "range" := q1.symm
        subst hf
        split at h
        · rename_i x1
          cases h
          obtain ⟨b1, rfl, h1, _⟩ := hs.one hes
          exact .void (fun _ _ => by unfold dE; rfl) fun tg => ri_rng1 (glX ok hgl) hm (hs.pa hes) (no_star h1)
        · rename_i x1 x2
          cases h
          obtain ⟨b1, b2, rfl, h1, h2, _, _⟩ := hs.two hes
          exact .void (fun _ _ => by unfold dE; rfl) fun tg => ri_rng2 (glX ok hgl) hm (hs.pa hes) (no_star h1) (no_star h2)
        · rename_i x1 x2 x3
          cases h
          cases as with
          | nil => unfold cEs at hes; cases hes
          | cons a as =>
            have hes' := hes
            unfold cEs at hes'
            obtain ⟨y, ys, h1, h2, z⟩ := o2_some hes'
            cases z
            obtain ⟨b1, b2, rfl, h3, h4, _, _⟩ := hs.all.2.two h2
            exact .void (fun _ _ => by unfold dE; rfl) fun tg => ri_rng3 (glX ok hgl) hm (hs.pa hes) (no_star h1) (no_star h3) (no_star h4)
        · cases h
      · split at h
        · -- repr
          rename_i e
          subst e
          have hf : f = "repr" := q1.symm
          subst hf
          split at h
          · rename_i x1
            split at h
            · rename_i hgd
              cases h
              cases as with
              | nil => unfold cEs at hes; cases hes
              | cons a as =>
                have ha := hs.pa hes
                have hes' := hes
                unfold cEs at hes'
                obtain ⟨y, ys, h1, h2, z⟩ := o2_some hes'
                cases z
                exact .plain (re_blt ok (fun _ => hgd) (glX ok hgl) hm (plain_dbg hpl) (plain_name hpl) boot_repr ha (no_star h1 _) (star_false h2).1) (by intro _; rfl) ⟨nofun, nofun, nofun⟩
            · cases h
          · cases h
        split at h
        · rename_i m hmm
          split at h
          · cases h
          · rename_i x xs
            cases h
            cases as with
            | nil => unfold cEs at hes; cases hes
            | cons a as =>
              have ha := hs.pa hes
              have hes' := hes
              unfold cEs at hes'
              obtain ⟨y, ys, h1, h2, z⟩ := o2_some hes'
              cases z
              have hin : (b, m) ∈ bltOf := by
                obtain ⟨l1, l2, e1, _⟩ := List.lookup_eq_some_iff.mp hmm
                rw [e1]; simp
              have hv : bootBuiltins f = some (bltVal m) := by
                rw [← q1]
                exact blt_boot (b, m) hin
              exact .plain (re_blt ok (fun z => absurd z (blt_norepr (b, m) hin)) (glX ok hgl) hm (plain_dbg hpl) (plain_name hpl) hv ha (no_star h1 _) (star_false h2).1) (by intro _; rfl) ⟨nofun, nofun, nofun⟩
        · cases h
theorem cEs_len {sc : Scope} : ∀ {as : List Expr} {es : List IE}, cEs g N sc as = some es → as.length = es.length
  | [], es, h => by unfold cEs at h; cases h; rfl
  | a :: as, es, h => by
    unfold cEs at h
    obtain ⟨_, _, _, h2, rfl⟩ := o2_some h
    simp [cEs_len h2]
theorem lookB_get {α : Type} {l : List (String × α)} {x : Str} {p : String × α} (h : lookB l x = some p) : Str.ofString p.1 = x ∧ p ∈ l := by
  unfold lookB at h
  exact ⟨beq_iff_eq.mp (List.find?_some (p := fun p : String × α => Str.ofString p.1 == x) h), List.mem_of_find?_eq_some h⟩
/-- a method of a list -/
theorem snd_meth {X : Cx} {sc : Scope} {W : WX} (ok : Ok X g N sc Γ W k) {o : Expr} {m : Str} {ap pos : Pos} {as : List Expr} {q : String × Me} {x y : IE} {es : List IE} (hs : SndL X Γ W g N sc as) (hes : cEs g N sc as = some (y :: es))
    (hq : lookB meOf m = some q) (hx : cE g N sc o = some x) (ho : PE X o (RE X Γ W x)) (hh : (ap.endLine == pos.line && decide (es.length < 28)) = true) : Snd X Γ W (.Call (.Attribute o m ap) as [] pos) (.meth q.2 x (y :: es)) := by
  simp only [Bool.and_eq_true, decide_eq_true_eq] at hh
  have ha := hs.pa hes
  have hlen := cEs_len hes
  have hst := (star_false (X := X) (pos := pos) hes).2
  cases as with
  | nil => cases hlen
  | cons a as =>
    have hes' := hes
    unfold cEs at hes'
    obtain ⟨y', ys, h1, h2, z⟩ := o2_some hes'
    cases z
    have hfew : ((backTo pos (starEach (a :: as) X.env)).all (fun x => !x.1) && (backToKw pos (keywordEach [] X.env)).all (fun x => x.1.isSome)
      && decide ((a :: as).length + ([] : List Keyword).length + (if ([] : List Keyword).isEmpty then 0 else 1) < 30)) = true := by
      simp only [List.length_cons] at hlen
      rw [hst]
      simp [keywordEach, backToKw]
      omega
    obtain ⟨q1, q2⟩ := lookB_get hq
    have hs1 := no_star (X := X) h1 as
    have hp1 := (star_false (X := X) (pos := pos) h2).1
    unfold meOf at q2
    simp only [List.mem_cons, List.not_mem_nil, or_false] at q2
    rcases q2 with rfl | rfl
    · have : m = "append" := q1.symm
      subst this
      exact .plain (re_meth PySem.F.plainAttrs_list PySem.F.slot_list_append PySem.F.type_list_append rfl mt_app ho ha (base_of hx) hfew hh.1 hs1 hp1) (by intro _; rfl) ⟨nofun, nofun, nofun⟩
    · have : m = "extend" := q1.symm
      subst this
      exact .plain (re_meth PySem.F.plainAttrs_list PySem.F.slot_list_extend PySem.F.type_list_extend rfl mt_ext ho ha (base_of hx) hfew hh.1 hs1 hp1) (by intro _; rfl) ⟨nofun, nofun, nofun⟩
/-- a comprehension -/
theorem snd_lc {X : Cx} {sc : Scope} {W : WX} (ok : Ok X g N sc Γ W k) {e tg it : Expr} {ifs : List Expr} {scope : Scope} {pos : Pos} {own : List (Str × Nat)} {t : Tg} {i : IE} {fs : List IE} {x : IE} (h1 : ownOf N scope = some own) (h2 : cT N scope tg = some t)
    (h3 : cE g N sc it = some i) (h4 : cEs g.nc N (relC scope sc) ifs = some fs) (h5 : cE g.nc N (relC scope sc) e = some x) (hh : (decide (ifs.length ≤ 1) && blkB N sc scope own && (tgSlots t).all (fun j => (own.map (·.2)).contains j)) = true)
    (s1 : ∀ e', cE g N sc it = some e' → Snd X Γ W it e') (s2 : ∀ X, Ok X g.nc N (relC scope sc) Γ W0 k → SndL X Γ W0 g.nc N (relC scope sc) ifs) (s3 : ∀ X, Ok X g.nc N (relC scope sc) Γ W0 k → ∀ e', cE g.nc N (relC scope sc) e = some e' → Snd X Γ W0 e e') :
    Snd X Γ W (.ListComp e [⟨tg, it, ifs, 0⟩] scope pos) (.lc (own.map (·.2)) t i fs x) := by
  simp only [Bool.and_eq_true, decide_eq_true_eq, List.all_eq_true, List.contains_iff_mem] at hh
  obtain ⟨⟨hl, hb⟩, ht⟩ := hh
  have bo : BlkOk X.N X.env.scope scope own := by
    rw [ok.hN, ok.hsc]; exact blk_ok hb
  have tts : ∀ X, Ok X g.nc N (relC scope sc) Γ W0 k → PTs X ifs (RTs X Γ W0 fs) := fun X ok' => by
    have q := s2 X ok'
    match ifs, hl with
    | [], _ => unfold cEs at h4; cases h4; exact rts_nil
    | [a], _ =>
      unfold cEs at h4
      obtain ⟨y, ys, h6, h7, rfl⟩ := o2_some h4
      unfold cEs at h7
      cases h7
      exact rts_one (q.all.1 _ h6).pt
    | _ :: _ :: _, hl => simp at hl
  refine .plain (PE.imp (pe_lc (tg := tg) (pos := pos) ok.calm (by rw [ok.hN]; exact ok.nd) ((s1 i h3).pi tg) bo (fun s H C cl fp => rg_of ok.blkT tg t h2) (fun s H C cl fp => tts _ ok.blk) (fun s H C cl fp => (s3 _ ok.blk x h5).pe) (no_fold h3)) fun σ H Q h => lc_read ht h) (by intro _; rfl) ⟨nofun, nofun, nofun⟩
theorem snd_call' {X : Cx} {sc : Scope} {W : WX} (ok : Ok X g N sc Γ W k) {f : Str} {p pos : Pos} {as : List Expr} {e' : IE} (hs : SndL X Γ W g N sc as)
    (h : (match cEs g N sc as with
      | some es => if glB sc f = true then (if plainN f = true then cCall g sc f as es else none) else none
      | none => none) = some e') : Snd X Γ W (.Call (.Name f p) as [] pos) e' := by
  split at h
  · rename_i es hes
    split at h
    · rename_i hgl
      split at h
      · rename_i hpl
        exact snd_call ok hs hes hgl hpl h
      · cases h
    · cases h
  · cases h
/-- a lambda's body -/
theorem Ok.lam {X : Cx} {sc : Scope} {W : WX} (ok : Ok X g N sc Γ W k) {A : Around} {outer : List Env} {s : Shared} {H : Hp} {E : XK} {scope : Scope} {f c' : Addr} (hr : Room k (A.deeper (LamX.lamEnv X scope s.heap.objs.size f c'))) :
    Ok (LamX.lamCx X A outer s H E scope f c') g.nl N scope Γ (fun cls d _ H => E cls d H) k :=
  ⟨ok.hN, ok.nd, rfl, rfl, L2.takes_of rfl rfl rfl rfl, L2.passes_of rfl, hr, ok.cst, ok.blt, ok.pls, ok.pls, nofun, ok.exc, ok.hex, ok.thks, nofun⟩
theorem cE_kw {sc : Scope} {x : Str} {px p : Pos} {as : List Expr} {kw : Keyword} {kws : List Keyword} : cE g N sc (.Call (.Name x px) as (kw :: kws) p) = none := by
  cases as with
  | nil => unfold cE; rfl
  | cons a r =>
    cases r with
    | nil => cases a <;> (unfold cE; rfl)
    | cons => cases a <;> (unfold cE; rfl)
mutual
theorem snd_e (e : Expr) : ∀ (g : GI) (X : Cx) (sc : Scope) (W : WX) (ok : Ok X g N sc Γ W k) (e' : IE), cE g N sc e = some e' → Snd X Γ W e e' :=
  match e with
  | .Constant c j p => fun g X sc W ok e' h => by
    unfold cE at h
    exact .plain (re_const h) (by intro _; rfl) (cK_walk h)
  | .Name x p => fun g X sc W ok e' h => by
    unfold cE at h
    exact .plain (re_name ok h ok.hsc) (by intro _; rfl) (cN_walk h)
  | .BinOp a o b p => fun g X sc W ok e' h => by
    unfold cE at h
    obtain ⟨x, y, h1, h2, rfl⟩ := o2_some h
    exact .plain (re_bin ok (snd_e a g X sc W ok x h1).pe (snd_e b g X sc W ok y h2).pe) (by intro _; rfl) ⟨nofun, nofun, nofun⟩
  | .UnaryOp o a p => fun g X sc W ok e' h => by
    unfold cE at h
    split at h
    · obtain ⟨x, h1, rfl⟩ := o1_some h
      exact .mk' (re_not (snd_e a g X sc W ok x h1).pe) (rt_not (snd_e a g X sc W ok x h1).pt) ⟨nofun, nofun, nofun⟩
    · obtain ⟨x, h1, rfl⟩ := o1_some h
      exact .plain (re_neg (snd_e a g X sc W ok x h1).pe) (by intro _; rfl) ⟨nofun, nofun, nofun⟩
    · cases h
  | .BoolOp o vs p => fun g X sc W ok e' h => by
    unfold cE at h
    split at h
    · rename_i a b r
      obtain ⟨q1, q2⟩ := snd_b (a :: b :: r) g X sc W ok p o e' h
      unfold cB at h
      obtain ⟨x, y, h1, h2, rfl⟩ := o2_some h
      cases o <;> exact .mk' q1 q2.pt ⟨nofun, nofun, nofun⟩
    · cases h
  | .Compare a ops bs p => fun g X sc W ok e' h => by
    unfold cE at h
    have hbs := snd_es bs g X sc W ok
    split at h
    · rename_i o x y h1 h2
      cases h
      obtain ⟨b, rfl, h3, pb⟩ := hbs.one h2
      exact .mk' (re_cmp ok (no_mark h3) (snd_e a g X sc W ok x h1).pe pb.pe) (rt_cmp ok (no_mark h3) (snd_e a g X sc W ok x h1).pe pb.pe) ⟨nofun, nofun, nofun⟩
    · rename_i o o2 x y z h1 h2
      cases h
      obtain ⟨b, c, rfl, h3, h4, pb, pc⟩ := hbs.two h2
      have hl : lastMarks [o, o2] [b, c] = false := no_mark h4
      have s1 := fun o => opCmp_s (X := X) (by have := ok.room.un; omega) o
      have ha := (snd_e a g X sc W ok x h1).pe
      exact .mk' (re_chain ok (no_mark h3) (no_mark h4) ha pb.pe pc.pe (pe_chain (s1 _) (s1 _) ha pb.pe pc.pe hl)) (rt_chain ok (pt_chain (s1 _) (s1 _) ha pb.pe pc.pe hl) fun _ _ _ h => h) ⟨nofun, nofun, nofun⟩
    · cases h
  | .IfExp t a b p => fun g X sc W ok e' h => by
    unfold cE at h
    obtain ⟨x, y, z, h1, h2, h3, rfl⟩ := o3_some h
    have s1 := snd_e t g X sc W ok x h1
    have s2 := snd_e a g X sc W ok y h2
    have s3 := snd_e b g X sc W ok z h3
    exact .mk' (re_ite s1.pt s2.pe s3.pe) (rt_ite s1.pt s2.pt s3.pt) ⟨nofun, nofun, nofun⟩
  | .Tuple es j p => fun g X sc W ok e' h => by
    unfold cE at h
    obtain ⟨x, h1, rfl⟩ := o1_some h
    exact .plain (re_tup ((snd_es es g X sc W ok).pa h1)) (by intro _; rfl) ⟨nofun, nofun, nofun⟩
  | .List es p => fun g X sc W ok e' h => by
    unfold cE at h
    obtain ⟨x, h1, rfl⟩ := o1_some h
    exact .plain (re_lst ((snd_es es g X sc W ok).pa h1)) (by intro _; rfl) ⟨nofun, nofun, nofun⟩
  | .Subscript a b p => fun g X sc W ok e' h => by
    have hb := snd_e b g X sc W ok
    cases b
    case Slice lo hi st p2 =>
      unfold cE at h
      split at h
      · obtain ⟨x, y, z, h1, h2, h3, rfl⟩ := o3_some h
        exact .plain (re_sl (snd_e a g X sc W ok x h1).pe (snd_o lo g X sc W ok y h2) (snd_o hi g X sc W ok z h3)) (by intro _; rfl) ⟨nofun, nofun, nofun⟩
      · split at h
        · obtain ⟨x, h1, rfl⟩ := o1_some h
          exact .plain (re_rv (snd_e a g X sc W ok x h1).pe) (by intro _; rfl) ⟨nofun, nofun, nofun⟩
        · cases h
      · cases h
    all_goals
      unfold cE at h
      obtain ⟨x, y, h1, h2, rfl⟩ := o2_some h
      exact .plain (re_ix (no_slice h2) (snd_e a g X sc W ok x h1).pe (hb y h2).pe) (by intro _; rfl) ⟨nofun, nofun, nofun⟩
  | .Call f as kws p => fun g X sc W ok e' h => by
    have hs := snd_es as g X sc W ok
    cases f
    case Name x px =>
      cases kws with
      | cons => rw [cE_kw] at h; cases h
      | nil =>
        cases as with
        | nil => unfold cE at h; exact snd_call' ok hs h
        | cons a r =>
          cases r with
          | cons => cases a <;> (unfold cE at h; exact snd_call' ok hs h)
          | nil =>
            cases a
            case Lambda args b scope lp =>
              have sb := fun X' W' => snd_e b g.nl X' scope W'
              unfold cE at h
              split at h
              · rename_i hh
                simp only [Bool.and_eq_true] at hh
                obtain ⟨⟨⟨⟨c1, c2⟩, c3⟩, c4⟩, c5⟩ := hh
                obtain ⟨fn, b', h1, h2, rfl⟩ := o2_some h
                obtain ⟨q1, q2⟩ := look_get h1
                exact .plain (re_lam ok c1 q2 q1 (glX ok c4) c5 c3 c2 fun A outer s H E f' c' hr => (sb _ _ (ok.lam hr) b' h2).pe) (by intro _; rfl) ⟨nofun, nofun, nofun⟩
              · cases h
            all_goals
              unfold cE at h
              exact snd_call' ok hs h
    case Attribute o m ap =>
      cases kws with
      | cons => unfold cE at h; cases h
      | nil =>
        unfold cE at h
        split at h
        · rename_i q x y es hq hx hes
          split at h
          · rename_i hh
            cases h
            exact snd_meth ok hs hes hq hx (snd_e o g X sc W ok x hx).pe hh
          · cases h
        · cases h
    all_goals
      unfold cE at h
      cases h
  | .ListComp e gs scope p => fun g X sc W ok e' h => by
    cases gs with
    | nil => unfold cE at h; cases h
    | cons gen rest =>
      cases rest with
      | cons => cases gen; unfold cE at h; cases h
      | nil =>
        cases gen with
        | mk tg it ifs as =>
          have s1 := snd_e it g X sc W ok
          have s2 := fun X => snd_es ifs g.nc X (relC scope sc) W0
          have s3 := fun X => snd_e e g.nc X (relC scope sc) W0
          unfold cE at h
          dsimp only at h
          split at h
          · rename_i own t i fs x h1 h2 h3 h4 h5
            split at h
            · rename_i h0
              subst h0
              split at h
              · rename_i hh
                cases h
                exact snd_lc ok h1 h2 h3 h4 h5 hh s1 s2 s3
              · cases h
            · cases h
          · cases h
  | .NamedExpr .. => fun g X sc W ok e' h => by unfold cE at h; cases h
  | .Lambda .. => fun g X sc W ok e' h => by unfold cE at h; cases h
  | .Dict .. => fun g X sc W ok e' h => by unfold cE at h; cases h
  | .Set .. => fun g X sc W ok e' h => by unfold cE at h; cases h
  | .SetComp .. => fun g X sc W ok e' h => by unfold cE at h; cases h
  | .DictComp .. => fun g X sc W ok e' h => by unfold cE at h; cases h
  | .GeneratorExp .. => fun g X sc W ok e' h => by unfold cE at h; cases h
  | .Await .. => fun g X sc W ok e' h => by unfold cE at h; cases h
  | .Yield .. => fun g X sc W ok e' h => by unfold cE at h; cases h
  | .YieldFrom .. => fun g X sc W ok e' h => by unfold cE at h; cases h
  | .FormattedValue .. => fun g X sc W ok e' h => by unfold cE at h; cases h
  | .JoinedStr .. => fun g X sc W ok e' h => by unfold cE at h; cases h
  | .Attribute .. => fun g X sc W ok e' h => by unfold cE at h; cases h
  | .Starred .. => fun g X sc W ok e' h => by unfold cE at h; cases h
  | .Slice .. => fun g X sc W ok e' h => by unfold cE at h; cases h
theorem snd_o (o : Option Expr) : ∀ (g : GI) (X : Cx) (sc : Scope) (W : WX) (ok : Ok X g N sc Γ W k) (e' : IE), cO g N sc o = some e' → PO X o (RO X Γ W e') :=
  match o with
  | none => fun g X sc W ok e' h => by
    unfold cO at h
    cases h
    exact ro_no
  | some e => fun g X sc W ok e' h => by
    unfold cO at h
    obtain ⟨h1, h2⟩ := live_some h
    exact ro_some h2 (snd_e e g X sc W ok e' h1).pe
theorem snd_es (es : List Expr) : ∀ (g : GI) (X : Cx) (sc : Scope) (W : WX) (ok : Ok X g N sc Γ W k), SndL X Γ W g N sc es :=
  match es with
  | [] => fun g X sc W ok => .nil
  | e :: es => fun g X sc W ok => .cons (fun e' h => snd_e e g X sc W ok e' h) (snd_es es g X sc W ok)
theorem snd_b (vs : List Expr) : ∀ (g : GI) (X : Cx) (sc : Scope) (W : WX) (ok : Ok X g N sc Γ W k) (p : Pos) (o : BoolOp) (e' : IE), cB g N sc o vs = some e' →
    PE X (.BoolOp o vs p) (RE X Γ W e') ∧ PW X (.BoolOp o vs p) (RT X Γ W e') :=
  match vs with
  | [] => fun g X sc W ok p o e' h => by unfold cB at h; cases h
  | [e] => fun g X sc W ok p o e' h => by
    unfold cB at h
    have s := snd_e e g X sc W ok e' h
    refine ⟨pe_one s.pe, ?_⟩
    cases o with
    | And => exact pw_and1 s.pt
    | Or => exact pw_or1 s.pt
  | e :: f :: es => fun g X sc W ok p o e' h => by
    unfold cB at h
    obtain ⟨x, y, h1, h2, rfl⟩ := o2_some h
    have s := snd_e e g X sc W ok x h1
    obtain ⟨q1, q2⟩ := snd_b (f :: es) g X sc W ok p o y h2
    cases o with
    | And => exact ⟨re_and s.pe q1, rt_and s.pt q2⟩
    | Or => exact ⟨re_or s.pe q1, rt_or s.pt q2⟩
end
/-- a comprehension's parts -/
theorem lc_parts {X : Cx} {sc : Scope} {W : WX} (ok : Ok X g N sc Γ W k) {e : Expr} {gs : List Comprehension} {scope : Scope} {pos : Pos} {e' : IE} (h : cE g N sc (.ListComp e gs scope pos) = some e') :
    ∃ (tg it : Expr) (ifs : List Expr) (own : List (Str × Nat)) (t : Tg) (i : IE) (fs : List IE) (x : IE), gs = [⟨tg, it, ifs, 0⟩] ∧ e' = .lc (own.map (·.2)) t i fs x ∧ PI X tg it (RI X Γ W i) ∧ BlkOk X.N X.env.scope scope own ∧
      (∀ (s : Shared) (H : Hp) (C : Addr) (cl : List (Str × Addr)) (fp : List Addr), PG (X.blk s H scope (compEnvC scope cl C X.env) fp) tg (RG X t)) ∧ (∀ (s : Shared) (H : Hp) (C : Addr) (cl : List (Str × Addr)) (fp : List Addr), PTs (X.blk s H scope (compEnvC scope cl C X.env) fp) ifs (RTs X Γ W0 fs)) ∧
      (∀ (s : Shared) (H : Hp) (C : Addr) (cl : List (Str × Addr)) (fp : List Addr), PE (X.blk s H scope (compEnvC scope cl C X.env) fp) e (RE X Γ W0 x)) ∧ (∀ y, foldedSetIterable it X.env y = pure y) ∧ ∀ j ∈ tgSlots t, j ∈ own.map (·.2) := by
  cases gs with
  | nil => unfold cE at h; cases h
  | cons gen rest =>
    cases rest with
    | cons => cases gen; unfold cE at h; cases h
    | nil =>
      cases gen with
      | mk tg it ifs as =>
        unfold cE at h
        dsimp only at h
        split at h
        · rename_i own t i fs x h1 h2 h3 h4 h5
          split at h
          · rename_i h0
            subst h0
            split at h
            · rename_i hh
              cases h
              simp only [Bool.and_eq_true, decide_eq_true_eq, List.all_eq_true, List.contains_iff_mem] at hh
              obtain ⟨⟨hl, hb⟩, ht⟩ := hh
              have bo : BlkOk X.N X.env.scope scope own := by
                rw [ok.hN, ok.hsc]; exact blk_ok hb
              refine ⟨tg, it, ifs, own, t, i, fs, x, rfl, rfl, (snd_e it g X sc W ok i h3).pi tg, bo, fun s H C cl fp => rg_of ok.blkT tg t h2, fun s H C cl fp => ?_, fun s H C cl fp => (snd_e e g.nc _ (relC scope sc) W0 ok.blk x h5).pe, no_fold h3, ht⟩
              have q := snd_es ifs g.nc _ (relC scope sc) W0 (ok.blk (scope := scope) (s := s) (H := H) (C := C) (cl := cl) (fp := fp))
              match ifs, hl with
              | [], _ => unfold cEs at h4; cases h4; exact rts_nil
              | [a], _ =>
                unfold cEs at h4
                obtain ⟨y, ys, h6, h7, rfl⟩ := o2_some h4
                unfold cEs at h7
                cases h7
                exact rts_one (q.all.1 _ h6).pt
              | _ :: _ :: _, hl => simp at hl
            · cases h
          · cases h
        · cases h
theorem cT_name {sc : Scope} {x : Str} {p : Pos} {t : Tg} (h : cT N sc (.Name x p) = some t) : ∃ i, N[i]? = some x ∧ t = .v i := by
  unfold cT at h
  split at h
  · obtain ⟨i, h1, rfl⟩ := o1_some h
    exact ⟨i, slot_get h1, rfl⟩
  · cases h
end
end G
end

section
set_option Elab.async false
set_option linter.all false
set_option maxRecDepth 100000
set_option maxHeartbeats 4000000
set_option autoImplicit false
/-! GStmt: statements do what the evaluator says. -/
namespace G
open PySem L2
variable [Tables]
section
variable {X : Cx} {g : GI} {N : List Str} {sc : Scope} {Γ : Ctx} {W : WX} {k : Nat} {pos : Pos}
/-! ### readings -/
theorem PostS.of {K : PySem.W.Frag} {mg : Str → Option Value} {ι : List (Addr × Bool)} {H : Hp} {r : R D} {ρ : Lo} {f : D → Cells → SR} {E : Ends} {σ : St} (h : PostS K mg W ι H (ofE r ρ f) E) (hσ : SRep K ι H σ ρ) :
    Post K mg W σ ι H r fun d c ι' H' => PostS K mg W ι' H' (f d c) E := by
  cases r with
  | ok d c => exact fun ι' H' e1 _ => PostS.mono h e1
  | ex x c => exact fun ι' H' C e1 h1 g => h ι' H' σ C e1 h1 (hσ.mono e1) g
  | no => exact h
theorem PostS.nx {K : PySem.W.Frag} {mg : Str → Option Value} {ι : List (Addr × Bool)} {H : Hp} {c : Cells} {ρ : Lo} {E : Ends} {σ : St} (h : PostS K mg W ι H (.nx ρ c) E) (hH : HRep K ι H c) (hσ : SRep K ι H σ ρ) : E.nx σ H := h ι H σ .refl hH hσ
/-- t = e: the value, then the targets -/
theorem set_read {t : Tg} {e' : IE} {E : Ends} {σ : St} {H : Hp} (h : RS X Γ W (.set t e') E σ H) : tAsg (RE X Γ W e') (RG X t) E σ H := by
  obtain ⟨ι, ρ, c, hσ, hH, hp⟩ := h
  unfold dS at hp
  refine ⟨ι, ρ, c, hσ, hH, (PostS.of hp hσ).imp fun d c1 ι1 H1 e1 h1 hp1 v rv => ?_⟩
  split at hp1
  · rename_i ρ' ha
    exact ⟨ι1, ρ, c1, d, ρ', hσ.mono e1, h1, rv, ha, fun σ' hs _ => hp1.nx h1 hs⟩
  · exact hp1.elim
theorem setV_read {i : Nat} {e' : IE} {E : Ends} {σ : St} {H : Hp} (h : RS X Γ W (.set (.v i) e') E σ H) : tAsg (RE X Γ W e') (gName i) E σ H := by
  obtain ⟨ι, ρ, c, hσ, hH, hp⟩ := h
  unfold dS at hp
  refine ⟨ι, ρ, c, hσ, hH, (PostS.of hp hσ).imp fun d c1 ι1 H1 e1 h1 hp1 v rv => ?_⟩
  unfold asg at hp1
  exact hp1.nx h1 ((hσ.mono e1).set rv)
theorem expr_read {e' : IE} {E : Ends} {σ : St} {H : Hp} (h : RS X Γ W (.expr e') E σ H) : tDrop (RE X Γ W e') E σ H := by
  obtain ⟨ι, ρ, c, hσ, hH, hp⟩ := h
  unfold dS at hp
  exact ⟨ι, ρ, c, hσ, hH, (PostS.of hp hσ).imp fun d c1 ι1 H1 e1 h1 hp1 v rv => hp1.nx h1 (hσ.mono e1)⟩
theorem ret_read {e' : IE} {E : Ends} {σ : St} {H : Hp} (h : RS X Γ W (.ret e') E σ H) : tRet (RE X Γ W e') E σ H := by
  obtain ⟨ι, ρ, c, hσ, hH, hp⟩ := h
  unfold dS at hp
  exact ⟨ι, ρ, c, hσ, hH, (PostS.of hp hσ).imp fun d c1 ι1 H1 e1 h1 hp1 v rv => hp1 ι1 H1 v .refl h1 rv⟩
theorem ife_read {t : IE} {a b : List IS} {E : Ends} {σ : St} {H : Hp} (h : RS X Γ W (.ife t a b) E σ H) : tIfS (RT X Γ W t) (RSs X Γ W a) (RSs X Γ W b) E σ H := by
  obtain ⟨ι, ρ, c, hσ, hH, hp⟩ := h
  unfold dS at hp
  refine ⟨ι, ρ, c, hσ, hH, (PostS.of hp hσ).imp fun d c1 ι1 H1 e1 h1 hp1 => ?_⟩
  split at hp1
  · rename_i q
    exact ⟨true, q, by simp only [if_true]; exact ⟨ι1, ρ, c1, hσ.mono e1, h1, hp1⟩⟩
  · rename_i q
    exact ⟨false, q, by simp only [Bool.false_eq_true, if_false]; exact ⟨ι1, ρ, c1, hσ.mono e1, h1, hp1⟩⟩
  · exact hp1.elim
theorem setIx_read {o i e' : IE} {E : Ends} {σ : St} {H : Hp} (h : RS X Γ W (.setIx o i e') E σ H) : tAsg (RE X Γ W e') (gSub (RE X Γ W o) (RE X Γ W i) rSetL) E σ H := by
  obtain ⟨ι, ρ, c, hσ, hH, hp⟩ := h
  unfold dS at hp
  refine ⟨ι, ρ, c, hσ, hH, (PostS.of hp hσ).imp fun z c1 ι1 H1 e1 h1 hp1 v rv => ⟨ι1, ρ, c1, hσ.mono e1, h1, (PostS.of hp1 (hσ.mono e1)).imp fun x c2 ι2 H2 e2 h2 hp2 ov ro =>
    ⟨ι2, ρ, c2, hσ.mono (e1.trans e2), h2, (PostS.of hp2 (hσ.mono (e1.trans e2))).imp fun y c3 ι3 H3 e3 h3 hp3 iv ri => ?_⟩⟩⟩
  split at hp3
  · rename_i n kk
    split at hp3
    · rename_i xs gq
      split at hp3
      · rename_i j hj
        obtain ⟨ad, us, g1, q1, r1⟩ := h3.lstW gq
        cases rep_fn (ro.mono e3) ⟨true, g1⟩
        cases ri
        have hlt : j < xs.length := (ixN_seq (n := xs.length) (show L2.ixN xs.length kk = some j from hj)).2.1
        obtain ⟨e4, h4⟩ := h3.write g1 gq q1 (Reps.set (rv.mono (e2.trans e3)) j r1)
        exact ⟨ad, us, kk, j, rfl, rfl, q1, by rw [r1.length]; exact hj, hp3 ι3 _ σ e4 h4 (hσ.mono (e1.trans (e2.trans (e3.trans e4))))⟩
      · exact hp3.elim
    · exact hp3.elim
  · exact hp3.elim
theorem aug_read {o : Operator} {f : Int → Int → Int} (ho : (o = .Add ∧ f = fun i j => i + j) ∨ (o = .Sub ∧ f = fun i j => i - j)) {i : Nat} {e' : IE} {E : Ends} {σ : St} {H : Hp} (h : RS X Γ W (.aug o i e') E σ H) : tAug i (RE X Γ W e') (ipI f) E σ H := by
  obtain ⟨ι, ρ, c, hσ, hH, hp⟩ := h
  unfold dS at hp
  split at hp
  · rename_i x hx
    obtain ⟨v, hv, rv⟩ := hσ.get i _ hx
    cases rv
    refine ⟨_, hv, ι, ρ, c, hσ, hH, (PostS.of hp hσ).imp fun y c1 ι1 H1 e1 h1 hp1 u ru => ?_⟩
    rcases ho with ⟨rfl, rfl⟩ | ⟨rfl, rfl⟩
    · cases y with
      | int z => cases ru; exact ⟨x, z, rfl, rfl, hp1.nx h1 ((hσ.mono e1).set rfl)⟩
      | _ => exact hp1.elim
    · cases y with
      | int z => cases ru; exact ⟨x, z, rfl, rfl, hp1.nx h1 ((hσ.mono e1).set rfl)⟩
      | _ => exact hp1.elim
  · exact hp.elim
theorem seq_read {s : IS} {r : List IS} {E : Ends} {σ : St} {H : Hp} (h : RSs X Γ W (s :: r) E σ H) : tSeq (RS X Γ W s) (RSs X Γ W r) E σ H := by
  obtain ⟨ι, ρ, c, hσ, hH, hp⟩ := h
  unfold dSs at hp
  refine ⟨ι, ρ, c, hσ, hH, ?_⟩
  cases q : dS Γ s ρ c with
  | nx ρ' c' =>
    rw [q] at hp
    intro ι' H' σ' e1 h1 s1
    exact ⟨ι', ρ', c', s1, h1, PostS.mono hp e1⟩
  | _ => rw [q] at hp; exact hp
theorem nil_read {E : Ends} {σ : St} {H : Hp} (h : RSs X Γ W [] E σ H) : tNext E σ H := by
  obtain ⟨ι, ρ, c, hσ, hH, hp⟩ := h
  unfold dSs at hp
  exact hp.nx hH hσ
/-! ### loops -/
noncomputable def whF (Γ : Ctx) (t : IE) (b : List IS) : Lo → Cells → Lo × Cells ⊕ SR := fun ρ c => match dE Γ t ρ c with
  | .ok x c1 => (match truth c1 x with
    | some true => (match dSs Γ b ρ c1 with
      | .nx ρ' c' => .inl (ρ', c')
      | .ct ρ' c' => .inl (ρ', c')
      | .bk ρ' c' => .inr (.nx ρ' c')
      | r => .inr r)
    | some false => .inr (.nx ρ c1)
    | none => .inr .no)
  | .ex e c1 => .inr (.ex e ρ c1)
  | .no => .inr .no
theorem whl_read {t : IE} {b : List IS} {E : Ends} {σ : St} {H : Hp} (h : RS X Γ W (.whl t b) E σ H) : tWhile (RT X Γ W t) (RSs X Γ W b) E σ H := by
  obtain ⟨ι, ρ, c, hσ, hH, hp⟩ := h
  have hp : PostS X.K X.mg W ι H (whlGo (whF Γ t b) ρ c) E := by unfold dS at hp; exact hp
  obtain ⟨m, r, hm, hr⟩ : ∃ m r, whlN (whF Γ t b) m ρ c = some r ∧ PostS X.K X.mg W ι H r E := by
    by_cases q : ∃ r n, whlN (whF Γ t b) n ρ c = some r
    · obtain ⟨r, n, q⟩ := q
      rw [whlGo_of q] at hp
      exact ⟨n, r, q, hp⟩
    · unfold whlGo at hp
      rw [dif_neg q] at hp
      exact hp.elim
  refine ⟨fun m σ H => ∃ ι ρ c r, SRep X.K ι H σ ρ ∧ HRep X.K ι H c ∧ whlN (whF Γ t b) m ρ c = some r ∧ PostS X.K X.mg W ι H r E, ⟨m, ι, ρ, c, r, hσ, hH, hm, hr⟩, ?_⟩
  clear hσ hH hp hm hr
  rintro m σ H ⟨ι, ρ, c, r, hσ, hH, hm, hr⟩
  cases m with
  | zero => cases hm
  | succ m =>
  unfold whlN at hm
  refine ⟨ι, ρ, c, hσ, hH, ?_⟩
  cases q : dE Γ t ρ c with
  | no =>
    have : whF Γ t b ρ c = .inr .no := by unfold whF; rw [q]
    rw [this] at hm
    cases hm
    exact hr.elim
  | ex x c1 =>
    have : whF Γ t b ρ c = .inr (.ex x ρ c1) := by unfold whF; rw [q]
    rw [this] at hm
    cases hm
    exact fun ι' H' C e1 h1 g => hr ι' H' σ C e1 h1 (hσ.mono e1) g
  | ok d c1 =>
    intro ι1 H1 e1 h1
    cases qt : truth c1 d with
    | none =>
      have : whF Γ t b ρ c = .inr .no := by unfold whF; rw [q]; dsimp only; rw [qt]
      rw [this] at hm
      cases hm
      exact hr.elim
    | some bb =>
    refine ⟨bb, rfl, ?_⟩
    cases bb with
    | false =>
      have : whF Γ t b ρ c = .inr (.nx ρ c1) := by unfold whF; rw [q]; dsimp only; rw [qt]
      rw [this] at hm
      cases hm
      simp only [Bool.false_eq_true, if_false]
      exact hr ι1 H1 σ e1 h1 (hσ.mono e1)
    | true =>
      simp only [if_true]
      refine ⟨fun σ' H' => ∃ ι ρ c r, SRep X.K ι H' σ' ρ ∧ HRep X.K ι H' c ∧ whlN (whF Γ t b) m ρ c = some r ∧ PostS X.K X.mg W ι H' r E, fun σ' H' n => ⟨m, Nat.lt_succ_self m, n⟩, ι1, ρ, c1, hσ.mono e1, h1, ?_⟩
      have hr := PostS.mono hr e1
      cases qs : dSs Γ b ρ c1 with
      | nx ρ' c' =>
        have : whF Γ t b ρ c = .inl (ρ', c') := by unfold whF; rw [q]; dsimp only; rw [qt]; dsimp only; rw [qs]
        rw [this] at hm
        exact fun ι' H' σ' e2 h2 s2 => ⟨ι', ρ', c', r, s2, h2, hm, PostS.mono hr e2⟩
      | ct ρ' c' =>
        have : whF Γ t b ρ c = .inl (ρ', c') := by unfold whF; rw [q]; dsimp only; rw [qt]; dsimp only; rw [qs]
        rw [this] at hm
        exact fun ι' H' σ' e2 h2 s2 => ⟨ι', ρ', c', r, s2, h2, hm, PostS.mono hr e2⟩
      | bk ρ' c' =>
        have : whF Γ t b ρ c = .inr (.nx ρ' c') := by unfold whF; rw [q]; dsimp only; rw [qt]; dsimp only; rw [qs]
        rw [this] at hm
        cases hm
        exact fun ι' H' σ' e2 h2 s2 => hr ι' H' σ' e2 h2 s2
      | rt dd c' =>
        have : whF Γ t b ρ c = .inr (.rt dd c') := by unfold whF; rw [q]; dsimp only; rw [qt]; dsimp only; rw [qs]
        rw [this] at hm
        cases hm
        exact hr
      | ex x ρ' c' =>
        have : whF Γ t b ρ c = .inr (.ex x ρ' c') := by unfold whF; rw [q]; dsimp only; rw [qt]; dsimp only; rw [qs]
        rw [this] at hm
        cases hm
        exact hr
      | no =>
        have : whF Γ t b ρ c = .inr .no := by unfold whF; rw [q]; dsimp only; rw [qt]; dsimp only; rw [qs]
        rw [this] at hm
        cases hm
        exact hr.elim
noncomputable def foF (Γ : Ctx) (t : Tg) (b : List IS) : D → Lo → Cells → SR := fun x ρ c => match asg c t x ρ with
  | none => .no
  | some ρ' => dSs Γ b ρ' c
theorem for_read {t : Tg} {it : IE} {b : List IS} {E : Ends} {σ : St} {H : Hp} (h : RS X Γ W (.for t it b) E σ H) : tFor (RI X Γ W it) (RG X t) (RSs X Γ W b) E σ H := by
  obtain ⟨ι, ρ, c, hσ, hH, hp⟩ := h
  have hp : PostS X.K X.mg W ι H (match dI Γ it ρ c with
    | .ok p c1 => forGo (foF Γ t b) p.2 p.1 ρ c1
    | .ex e c1 => .ex e ρ c1
    | .no => .no) E := by unfold dS at hp; exact hp
  refine ⟨ι, ρ, c, hσ, hH, ?_⟩
  cases q : dI Γ it ρ c with
  | no => rw [q] at hp; exact hp.elim
  | ex x c1 => rw [q] at hp; exact fun ι' H' C e1 h1 g => hp ι' H' σ C e1 h1 (hσ.mono e1) g
  | ok p c1 =>
  rw [q] at hp
  dsimp only at hp
  intro ι1 H1 e1 h1 J hw
  obtain ⟨xs, ws⟩ := p
  dsimp only at hp hw
  refine ⟨fun i m σ H => m = xs.length - i ∧ i ≤ xs.length ∧ ∃ ι ρ c, Ext ι1 H1 ι H ∧ SRep X.K ι H σ ρ ∧ HRep X.K ι H c ∧ same ws c1 c = true ∧ PostS X.K X.mg W ι H (forGo (foF Γ t b) ws (xs.drop i) ρ c) E,
    ⟨xs.length, by simp, Nat.zero_le _, ι1, ρ, c1, .refl, hσ.mono e1, h1, same_refl, by simpa using PostS.mono hp e1⟩, ?_⟩
  rintro i m σ5 H5 ⟨rfl, hi, ι5, ρ5, c5, e5, s5, h5, sm5, q5⟩
  by_cases hlt : i < xs.length
  · have hx : xs[i]? = some xs[i] := List.getElem?_eq_getElem hlt
    obtain ⟨hgo, hyld⟩ := (hw ι5 H5 c5 i e5 h5 sm5).1 _ hx
    refine .inr ⟨hgo, fun σ' H' => ∃ ι ρ c, Ext ι1 H1 ι H' ∧ SRep X.K ι H' σ' ρ ∧ HRep X.K ι H' c ∧ same ws c1 c = true ∧ PostS X.K X.mg W ι H' (forGo (foF Γ t b) ws (xs.drop (i + 1)) ρ c) E, fun σ' H' n => ⟨xs.length - (i + 1), by omega, rfl, hlt, n⟩, fun x H6 hy => ?_⟩
    obtain ⟨e6, h6, rx⟩ := hyld x H6 hy
    rw [List.drop_eq_getElem_cons hlt] at q5
    generalize xs[i] = d at q5 rx
    unfold forGo at q5
    cases ha : asg c5 t d ρ5 with
    | none =>
      have : foF Γ t b d ρ5 c5 = .no := by unfold foF; rw [ha]
      rw [this] at q5
      exact q5.elim
    | some ρ' =>
    have hf : foF Γ t b d ρ5 c5 = dSs Γ b ρ' c5 := by unfold foF; rw [ha]
    rw [hf] at q5
    have q5 := PostS.mono q5 e6
    refine ⟨ι5, ρ5, c5, d, ρ', s5.mono e6, h6, rx, ha, fun σ2 hσ2 _ => ⟨ι5, ρ', c5, hσ2, h6, ?_⟩⟩
    cases qs : dSs Γ b ρ' c5 with
    | nx ρ2 c' =>
      rw [qs] at q5
      dsimp only at q5
      split at q5
      · rename_i sm
        exact fun ι' H' σ' e2 h2 s2 => ⟨ι', ρ2, c', (e5.trans e6).trans e2, s2, h2, same_trans sm5 sm, PostS.mono q5 e2⟩
      · exact q5.elim
    | ct ρ2 c' =>
      rw [qs] at q5
      dsimp only at q5
      split at q5
      · rename_i sm
        exact fun ι' H' σ' e2 h2 s2 => ⟨ι', ρ2, c', (e5.trans e6).trans e2, s2, h2, same_trans sm5 sm, PostS.mono q5 e2⟩
      · exact q5.elim
    | bk ρ2 c' => rw [qs] at q5; exact fun ι' H' σ' e2 h2 s2 => q5 ι' H' σ' e2 h2 s2
    | rt dd c' => rw [qs] at q5; exact q5
    | ex x ρ2 c' => rw [qs] at q5; exact q5
    | no => rw [qs] at q5; exact q5.elim
  · have e' : i = xs.length := by omega
    subst e'
    refine .inl ⟨(hw ι5 H5 c5 _ e5 h5 sm5).2 (Nat.le_refl _), ?_⟩
    rw [List.drop_length] at q5
    unfold forGo at q5
    exact q5.nx h5 s5
/-! ### a pair of names -/
theorem par_read {i j : Nat} {es : List IE} {E : Ends} {σ : St} {H : Hp} (h : RS X Γ W (.set (.tup [.v i, .v j]) (.tup es)) E σ H) : tPar i j (RA X Γ W es) E σ H := by
  obtain ⟨ι, ρ, c, hσ, hH, hp⟩ := h
  unfold dS at hp
  have hp1 := PostS.of hp hσ
  unfold dE at hp1
  refine ⟨ι, ρ, c, hσ, hH, (Post.bind hp1).imp fun xs c1 ι1 H1 e1 h1 hp2 vs rv => ?_⟩
  split at hp2
  · have hp3 := hp2.ok h1
    split at hp3
    · rename_i ρ' ha
      unfold asg at ha
      have hl := asgs_len ha
      obtain ⟨x, y, rfl⟩ : ∃ x y, xs = [x, y] := by
        match xs, hl with
        | [x, y], _ => exact ⟨x, y, rfl⟩
      obtain ⟨v, r, rfl, r1, w, z, rfl, r2, rfl⟩ := rv
      simp only [asgs, asg, Option.some.injEq] at ha
      subst ha
      exact ⟨v, w, rfl, hp3.nx h1 (((hσ.mono e1).set r1).set r2)⟩
    · exact hp3.elim
  · exact hp2.elim
theorem par3_read {i j l : Nat} {es : List IE} {E : Ends} {σ : St} {H : Hp} (h : RS X Γ W (.set (.tup [.v i, .v j, .v l]) (.tup es)) E σ H) : tPar3 i j l (RA X Γ W es) E σ H := by
  obtain ⟨ι, ρ, c, hσ, hH, hp⟩ := h
  unfold dS at hp
  have hp1 := PostS.of hp hσ
  unfold dE at hp1
  refine ⟨ι, ρ, c, hσ, hH, (Post.bind hp1).imp fun xs c1 ι1 H1 e1 h1 hp2 vs rv => ?_⟩
  split at hp2
  · have hp3 := hp2.ok h1
    split at hp3
    · rename_i ρ' ha
      unfold asg at ha
      have hl := asgs_len ha
      obtain ⟨x, y, z, rfl⟩ : ∃ x y z, xs = [x, y, z] := by
        match xs, hl with
        | [x, y, z], _ => exact ⟨x, y, z, rfl⟩
      obtain ⟨v, r, rfl, r1, w, t, rfl, r2, u, o, rfl, r3, rfl⟩ := rv
      simp only [asgs, asg, Option.some.injEq] at ha
      subst ha
      exact ⟨v, w, u, rfl, hp3.nx h1 ((((hσ.mono e1).set r1).set r2).set r3)⟩
    · exact hp3.elim
  · exact hp2.elim
/-! ### exceptions -/
theorem raise_read {x : String} {C : Addr} (hC : X.mg (Str.ofString x) = some (.ref C)) {E : Ends} {σ : St} {H : Hp} (h : RS X Γ W (.raise x) E σ H) : W (.ref C) none σ H := by
  obtain ⟨ι, ρ, c, hσ, hH, hp⟩ := h
  unfold dS at hp
  exact hp ι H σ C .refl hH hσ hC
theorem try_read {b : List IS} {hs : List (String × D)} {L : List (Value × (Addr → Value → Option Addr → TS))} {E : Ends} {σ : St} {H : Hp} (hex : Γ.excs = g.excs) (hv : ∀ y d, hs.lookup y = some d → ∀ (K : PySem.W.Frag) (ι : List (Addr × Bool)) (H : Hp), Rep K ι H d (vD d))
    (hm : ∀ (x : String) (C : Addr) (dd : Option Addr) (σ : St) (H : Hp), x ∈ g.excs → X.mg (Str.ofString x) = some (.ref C) → (∀ d, hs.lookup x = some d → E.rt (vD d) H → wMany X.K W E L (.ref C) dd σ H) ∧ (hs.lookup x = none → W (.ref C) dd σ H → wMany X.K W E L (.ref C) dd σ H))
    (h : RS X Γ W (.try b hs) E σ H) : RSs X Γ (wMany X.K W E L) b E σ H := by
  obtain ⟨ι, ρ, c, hσ, hH, hp⟩ := h
  unfold dS at hp
  refine ⟨ι, ρ, c, hσ, hH, ?_⟩
  cases q : dSs Γ b ρ c with
  | ex x ρ' c' =>
    rw [q] at hp
    dsimp only at hp
    split at hp
    · rename_i hx
      rw [hex] at hx
      intro ι' H' σ' C e1 h1 s1 hC
      split at hp
      · rename_i d hd
        exact (hm x C none σ' H' hx hC).1 d hd (hp ι' H' _ e1 h1 (hv x d hd _ _ _))
      · rename_i hd
        exact (hm x C none σ' H' hx hC).2 hd (hp ι' H' σ' C e1 h1 s1 hC)
    · exact hp.elim
  | _ => rw [q] at hp; exact hp
/-- X(), X an own exception class without own __init__ -/
theorem pmk_own0 {C : Addr} {bmB : List Value} {B newId initId : String} {x : Str} {p : Pos} (F : ExcBaseFacts B newId initId bmB) (q : PySem.W.excIn X.K C bmB newId = true) (gC : X.mg x = some (.ref C))
    (kC : PySem.W.keepIn X.K (.ref C) = true) (r : Raises X (.ref C)) (hg : Gl X x) (hdb : (x == ("__debug__" : Str)) = false) : PMk X (.Call (.Name x p) [] [] pos) (fun σ H Q => Q (.ref C) none H) := by
  intro pins s σ H Q I h
  refine wpAny_Call_Name_kw (ld_glob I hg gC ?_ hdb)
  refine PySem.W.callWith_K0 I.kIn kC ?_
  show wpAny _ _ (call (.ref C) []) _ _ _
  obtain ⟨bm, N, nm, qn, bs, hdct, sn, sub, ab, col, dd, k0, k1, k2, k3, k5, mN, hC, hN, hni, T⟩ := exc_obj I.kIn q
  refine wpAny_call_exc_subT F T hC hN hni (fun h' e hm => ?_) (Nat.zero_le _)
  exact mk_of I hm r h (I.hok.gone hm.new)
/-! ### the statements -/
structure SOk (X : Cx) (g : GI) (N : List Str) (sc : Scope) (Γ : Ctx) (W : WX) (k : Nat) : Prop where
  ok : Ok X g N sc Γ W k
  tok : TOk X N sc
  stack : X.stack = X.env :: X.outer
  frame : X.env.frame = some X.env.locals
theorem SOk.tr {W' : WX} (s : SOk X g N sc Γ W k) {pn : List (Addr × Obj)} {xe : Value → Shared → Prop} (tk : Takes (X.tr pn xe) W') (ps : PassesOwn (model X.prog X.w) X.A X.env xe) : SOk (X.tr pn xe) g N sc Γ W' k :=
  ⟨⟨s.ok.hN, s.ok.nd, s.ok.hsc, s.ok.calm, tk, ps, s.ok.room, s.ok.cst, s.ok.blt, s.ok.fns, s.ok.pls, s.ok.gds, s.ok.exc, s.ok.hex, s.ok.thks, s.ok.deep⟩, ⟨s.tok.hN, s.tok.nd, s.tok.calm, s.tok.loc⟩, s.stack, s.frame⟩
theorem sw_none {e : Expr} {l : Nat} {env : Env} (h : isComp e = false) {e' : IE} (hc : cE g N sc e = some e') (t : Option Expr) : swapsWith e t l env = pure false := by
  cases e with
  | ListComp => cases h
  | SetComp => unfold cE at hc; cases hc
  | DictComp => unfold cE at hc; cases hc
  | _ => rfl
theorem sw_other {e t : Expr} {l : Nat} {env : Env} (ht : ∀ x p, t ≠ .Name x p) : swapsWith e (some t) l env = pure false := by
  cases t with
  | Name x p => exact absurd rfl (ht x p)
  | _ => cases e <;> rfl
theorem stored_env {t e : Expr} {env : Env} : swappedStores [t] e env = swappedStores [t] e (envD env.scope) := rfl
theorem swC_some {t e : Expr} {env : Env} {r : Option (List Str)} (hs : env.scope = sc) (h : swC sc t e = some r) : swappedStores [t] e env = pure r := by
  rw [stored_env, hs]
  unfold swC at h
  split at h
  · rename_i q
    cases h
    exact q
  · cases h
theorem snd_set {x : Str} {px : Pos} {e : Expr} {is : IS} (s : SOk X g N sc Γ W k) (h : cS g N sc (.Assign [.Name x px] e pos) = some is) : PS X (.Assign [.Name x px] e pos) (RS X Γ W is) := by
  unfold cS at h
  split at h
  case isFalse => cases h
  rename_i hl
  obtain ⟨i, e', h1, h2, rfl⟩ := o2_some h
  have hi : X.N[i]? = some x := by rw [s.ok.hN]; exact slot_get h1
  have hN : X.N.Nodup := by rw [s.ok.hN]; exact s.ok.nd
  obtain ⟨q1, q2⟩ := s.tok.loc x hl
  have he := snd_e e g X sc W s.ok e' h2
  have gen : swapsWith e (some (.Name x px)) pos.line X.env = pure false → PS X (.Assign [.Name x px] e pos) (RS X Γ W (.set (.v i) e')) := fun hs => PS.imp (ps_set hN hi q1 he.pe hs q2) fun _ _ _ h => setV_read h
  cases e
  case ListComp elt gs scope lp =>
    have hb : ∃ b : Bool, swapsWith (.ListComp elt gs scope lp) (some (.Name x px)) pos.line X.env = pure b := ⟨_, rfl⟩
    obtain ⟨b, hb⟩ := hb
    cases b with
    | false => exact gen hb
    | true =>
      have hloc : X.env.scope.names.lookup x = some .local := by
        have hb2 : (X.env.blockKind == .function && X.env.kindOf x == some .local && px.line == lp.line && !(scope.names.any fun (n, k) => n == x && (k == .local || k == .cell))) = true := by
          have : (pure (X.env.blockKind == .function && X.env.kindOf x == some .local && px.line == lp.line && !(scope.names.any fun (n, k) => n == x && (k == .local || k == .cell))) : Sem Bool) = pure true := hb
          injection this
        simp only [Bool.and_eq_true, beq_iff_eq] at hb2
        exact hb2.1.1.2
      obtain ⟨tg, it, ifs, own, t, i', fs, x', rfl, rfl, L⟩ := lc_parts s.ok h2
      obtain ⟨l1, l2, l3, l4, l5, l6, l7⟩ := L
      refine PS.imp (ps_setLc s.ok.calm hN hi hloc hb l1 l2 l3 l4 l5 l6) fun E σ H h => ?_
      exact lc_read l7 (setV_read h)
  all_goals exact gen (sw_none rfl h2 _)
theorem tup_targets {es : List Expr} {j : Nat} {tp : Pos} {env : Env} : (assignEach [.Tuple es j tp] env).map (·.2) = [assign (.Tuple es j tp) env] := rfl
theorem parT_some {es : List Expr} {e : Expr} {names : List Str} (h : parT sc es e names = true) :
    (∃ x px y py a b k2 pt2, es = [.Name x px, .Name y py] ∧ e = .Tuple [a, b] k2 pt2 ∧ names = [x, y] ∧ sc.names.lookup x = some .local ∧ sc.names.lookup y = some .local ∧ x ≠ y) ∨
    (∃ x px y py z pz a b c k2 pt2, es = [.Name x px, .Name y py, .Name z pz] ∧ e = .Tuple [a, b, c] k2 pt2 ∧ names = [x, y, z] ∧ sc.names.lookup x = some .local ∧ sc.names.lookup y = some .local ∧ sc.names.lookup z = some .local ∧ x ≠ y ∧ x ≠ z ∧ y ≠ z) := by
  unfold parT at h
  split at h
  · simp only [Bool.and_eq_true, beq_iff_eq, Bool.not_eq_true', beq_eq_false_iff_ne] at h
    obtain ⟨⟨hn, hl⟩, hxy⟩ := h
    split at hl
    · rename_i l1 l2
      exact .inl ⟨_, _, _, _, _, _, _, _, rfl, rfl, hn, l1, l2, hxy⟩
    · cases hl
  · simp only [Bool.and_eq_true, beq_iff_eq, Bool.not_eq_true', beq_eq_false_iff_ne] at h
    obtain ⟨⟨⟨⟨hn, hl⟩, hxy⟩, hxz⟩, hyz⟩ := h
    split at hl
    · rename_i l1 l2 l3
      exact .inr ⟨_, _, _, _, _, _, _, _, _, _, _, rfl, rfl, hn, l1, l2, l3, hxy, hxz, hyz⟩
    · cases hl
  · cases h
theorem snd_tup {es : List Expr} {j : Nat} {tp : Pos} {e : Expr} {is : IS} (s : SOk X g N sc Γ W k) (h : cS g N sc (.Assign [.Tuple es j tp] e pos) = some is) : PS X (.Assign [.Tuple es j tp] e pos) (RS X Γ W is) := by
  unfold cS at h
  have hN : X.N.Nodup := by rw [s.ok.hN]; exact s.ok.nd
  split at h
  · rename_i hsw
    obtain ⟨t, e', h1, h2, rfl⟩ := o2_some h
    exact PS.imp (ps_asg (snd_e e g X sc W s.ok e' h2).pe (rg_of s.tok _ t h1) (sw_other (env := X.env) (l := pos.line) (t := .Tuple es j tp) (by intro _ _ z; cases z)) (swC_some s.ok.hsc hsw) tup_targets) fun _ _ _ h => set_read h
  · rename_i names hsw
    split at h
    case isFalse => cases h
    rename_i hpar
    obtain ⟨t, e', h1, h2, rfl⟩ := o2_some h
    have hsw := swC_some s.ok.hsc hsw
    rcases parT_some hpar with ⟨x, px, y, py, a, b, k2, pt2, rfl, rfl, rfl, lx, ly, hxy⟩ | ⟨x, px, y, py, z, pz, a, b, c, k2, pt2, rfl, rfl, rfl, lx, ly, lz, hxy, hxz, hyz⟩
    · unfold cT at h1
      obtain ⟨ts, h3, rfl⟩ := o1_some h1
      unfold cTs at h3
      obtain ⟨t1, r1, h4, h5, rfl⟩ := o2_some h3
      unfold cTs at h5
      obtain ⟨t2, r2, h6, h7, rfl⟩ := o2_some h5
      unfold cTs at h7
      cases h7
      obtain ⟨i, hi, rfl⟩ := cT_name h4
      obtain ⟨jj, hj, rfl⟩ := cT_name h6
      unfold cE at h2
      obtain ⟨es', h8, rfl⟩ := o1_some h2
      have hij : i ≠ jj := fun z => hxy (by
        rw [z, hj] at hi
        exact (Option.some.inj hi).symm)
      have hsole : ∀ (l : Nat), swapsWithSole [.Tuple [.Name x px, .Name y py] j tp] (.Tuple [a, b] k2 pt2) l X.env = pure false := fun _ => rfl
      exact PS.imp (ps_par s.ok.calm hN (by rw [s.ok.hN]; exact hi) (by rw [s.ok.hN]; exact hj) hij (by rw [s.ok.hsc]; exact lx) (by rw [s.ok.hsc]; exact ly) ((snd_es _ g X sc W s.ok).pa h8) hsw (hsole _)) fun _ _ _ h => par_read h
    · unfold cT at h1
      obtain ⟨ts, h3, rfl⟩ := o1_some h1
      unfold cTs at h3
      obtain ⟨t1, r1, h4, h5, rfl⟩ := o2_some h3
      unfold cTs at h5
      obtain ⟨t2, r2, h6, h7, rfl⟩ := o2_some h5
      unfold cTs at h7
      obtain ⟨t3, r3, h9, h10, rfl⟩ := o2_some h7
      unfold cTs at h10
      cases h10
      obtain ⟨i, hi, rfl⟩ := cT_name h4
      obtain ⟨jj, hj, rfl⟩ := cT_name h6
      obtain ⟨ll, hl', rfl⟩ := cT_name h9
      unfold cE at h2
      obtain ⟨es', h8, rfl⟩ := o1_some h2
      have ne : ∀ {a b : Nat} {u v : Str}, N[a]? = some u → N[b]? = some v → u ≠ v → a ≠ b := fun h1 h2 hne z => hne (by
        rw [z, h2] at h1
        exact (Option.some.inj h1).symm)
      have hsole : ∀ (l : Nat), swapsWithSole [.Tuple [.Name x px, .Name y py, .Name z pz] j tp] (.Tuple [a, b, c] k2 pt2) l X.env = pure false := fun _ => rfl
      exact PS.imp (ps_par3 s.ok.calm hN (by rw [s.ok.hN]; exact hi) (by rw [s.ok.hN]; exact hj) (by rw [s.ok.hN]; exact hl') (ne hi hj hxy) (ne hi hl' hxz) (ne hj hl' hyz) (by rw [s.ok.hsc]; exact lx) (by rw [s.ok.hsc]; exact ly) (by rw [s.ok.hsc]; exact lz)
        ((snd_es _ g X sc W s.ok).pa h8) hsw (hsole _)) fun _ _ _ h => par3_read h
  · cases h
theorem snd_sub {o i : Expr} {sp : Pos} {e : Expr} {is : IS} (s : SOk X g N sc Γ W k) (h : cS g N sc (.Assign [.Subscript o i sp] e pos) = some is) : PS X (.Assign [.Subscript o i sp] e pos) (RS X Γ W is) := by
  unfold cS at h
  obtain ⟨o', i', e', h1, h2, h3, rfl⟩ := o3_some h
  have ha : ∀ v, assign (.Subscript o i sp) X.env v = (do
      let ov ← holding [v] (eval o X.env)
      let iv ← holding [v, ov] (eval i X.env)
      standAt sp
      holding [v, ov, iv] (setItem ov iv v)
      release [v, ov, iv] []) := by
    intro v
    cases i with
    | Slice => unfold cE at h2; cases h2
    | _ => rfl
  exact PS.imp (ps_asg (snd_e e g X sc W s.ok e' h3).pe (pg_sub (snd_e o g X sc W s.ok o' h1).pe (snd_e i g X sc W s.ok i' h2).pe set_list ha) (sw_other (env := X.env) (l := pos.line) (t := .Subscript o i sp) (by intro _ _ z; cases z)) rfl rfl) fun _ _ _ h => setIx_read h
theorem snd_aug {x : Str} {px : Pos} {o : Operator} {e : Expr} {is : IS} (s : SOk X g N sc Γ W k) (h : cS g N sc (.AugAssign (.Name x px) o e pos) = some is) : PS X (.AugAssign (.Name x px) o e pos) (RS X Γ W is) := by
  unfold cS at h
  split at h
  case isFalse => cases h
  rename_i hl
  have hN : X.N.Nodup := by rw [s.ok.hN]; exact s.ok.nd
  obtain ⟨q1, q2⟩ := s.tok.loc x hl
  cases o
  case Add =>
    obtain ⟨i, e', h1, h2, rfl⟩ := o2_some h
    exact PS.imp (ps_aug hN (by rw [s.ok.hN]; exact slot_get h1) q1 (snd_e e g X sc W s.ok e' h2).pe ip_add q2) fun _ _ _ h => aug_read (.inl ⟨rfl, rfl⟩) h
  case Sub =>
    obtain ⟨i, e', h1, h2, rfl⟩ := o2_some h
    exact PS.imp (ps_aug hN (by rw [s.ok.hN]; exact slot_get h1) q1 (snd_e e g X sc W s.ok e' h2).pe ip_sub q2) fun _ _ _ h => aug_read (.inr ⟨rfl, rfl⟩) h
  all_goals cases h
theorem snd_raise {e : Expr} {is : IS} (s : SOk X g N sc Γ W k) (h : cS g N sc (.Raise (some e) none pos) = some is) : PS X (.Raise (some e) none pos) (RS X Γ W is) := by
  unfold cS at h
  split at h
  all_goals first
    | (rename_i z; cases z; done)
    | skip
  · rename_i x p1 p2 p3 z
    cases z
    obtain ⟨y, h1, rfl⟩ := o1_some h
    obtain ⟨hy, C, hC, hn, hg, hx, hp⟩ := exc_names s.ok.hsc s.ok.exc h1
    obtain ⟨B, newId, initId, bmB, F, q, kC, r1, r2⟩ := s.ok.exc.own y hy C hC
    exact PS.imp (ps_raise s.ok.calm s.ok.tk (pmk_own0 F q (by rw [← hx]; exact hC) kC (raises_own r1 r2) hg (plain_dbg hp))) fun _ _ _ h => raise_read hC h
  all_goals cases h
theorem cS_from {e f : Expr} : cS g N sc (.Raise (some e) (some f) pos) = none := by
  cases e with
  | Call f2 as kws p =>
    cases f2 with
    | Name x p2 =>
      cases as with
      | nil => cases kws <;> (unfold cS; rfl)
      | cons => unfold cS; rfl
    | _ => unfold cS; rfl
  | _ => unfold cS; rfl
mutual
theorem snd_s (s : Stmt) : ∀ (X : Cx) (W : WX) (ok : SOk X g N sc Γ W k) (is : IS), cS g N sc s = some is → PS X s (RS X Γ W is) :=
  match s with
  | .Assign ts e p => fun X W ok is h => by
    match ts, h with
    | [], h => unfold cS at h; cases h
    | t :: _ :: _, h => cases t <;> (unfold cS at h; cases h)
    | [t], h =>
      cases t
      case Name => exact snd_set ok h
      case Tuple => exact snd_tup ok h
      case Subscript => exact snd_sub ok h
      all_goals (unfold cS at h; cases h)
  | .AugAssign t o e p => fun X W ok is h => by
    cases t
    case Name x px => exact snd_aug ok h
    all_goals (unfold cS at h; cases h)
  | .Expr e p => fun X W ok is h => by
    unfold cS at h
    split at h
    · cases h
    · rename_i hc
      obtain ⟨e', h1, rfl⟩ := o1_some h
      exact PS.imp (ps_expr (snd_e e g X sc W ok.ok e' h1).pe (sw_none (by simpa using hc) h1 none)) fun _ _ _ h => expr_read h
  | .Return none p => fun X W ok is h => by
    unfold cS at h
    cases h
    exact PS.imp ps_retN fun E σ H ⟨ι, ρ, c, hσ, hH, hp⟩ => by
      unfold dS at hp
      exact hp ι H _ .refl hH rfl
  | .Return (some e) p => fun X W ok is h => by
    unfold cS at h
    obtain ⟨e', h1, rfl⟩ := o1_some h
    exact PS.imp (ps_ret (snd_e e g X sc W ok.ok e' h1).pe) fun _ _ _ h => ret_read h
  | .If t a b p => fun X W ok is h => by
    unfold cS at h
    obtain ⟨x, y, z, h1, h2, h3, rfl⟩ := o3_some h
    exact PS.imp (ps_if (snd_e t g X sc W ok.ok x h1).pt (snd_ss a X W ok y h2) (snd_ss b X W ok z h3)) fun _ _ _ h => ife_read h
  | .While t b oe p => fun X W ok is h => by
    cases oe with
    | cons => unfold cS at h; cases h
    | nil =>
      unfold cS at h
      obtain ⟨x, y, h1, h2, rfl⟩ := o2_some h
      exact PS.imp (ps_while ok.ok.pass (snd_e t g X sc W ok.ok x h1).pt (snd_ss b X W ok y h2)) fun _ _ _ h => whl_read h
  | .For t it b oe p => fun X W ok is h => by
    cases oe with
    | cons => unfold cS at h; cases h
    | nil =>
      unfold cS at h
      obtain ⟨x, y, z, h1, h2, h3, rfl⟩ := o3_some h
      exact PS.imp (ps_for ok.ok.pass ok.ok.calm ((snd_e it g X sc W ok.ok y h2).pi t) (rg_of ok.tok t x h1) (snd_ss b X W ok z h3) (no_fold h2)) fun _ _ _ h => for_read h
  | .Break p => fun X W ok is h => by
    unfold cS at h
    cases h
    exact PS.imp ps_break fun E σ H ⟨ι, ρ, c, hσ, hH, hp⟩ => by
      unfold dS at hp
      exact hp ι H _ .refl hH hσ
  | .Continue p => fun X W ok is h => by
    unfold cS at h
    cases h
    exact PS.imp ps_continue fun E σ H ⟨ι, ρ, c, hσ, hH, hp⟩ => by
      unfold dS at hp
      exact hp ι H _ .refl hH hσ
  | .Pass p => fun X W ok is h => by
    unfold cS at h
    cases h
    exact PS.imp ps_pass fun E σ H ⟨ι, ρ, c, hσ, hH, hp⟩ => by
      unfold dS at hp
      exact hp ι H _ .refl hH hσ
  | .Raise e f p => fun X W ok is h => by
    cases e with
    | none => unfold cS at h; cases h
    | some e =>
      cases f with
      | some f =>
        rw [cS_from] at h
        cases h
      | none => exact snd_raise ok h
  | .Try b hs oe fb p => fun X W ok is h => by
    have hb := fun X' W' => snd_ss b X' W'
    cases hs with
    | nil => unfold cS at h; cases h
    | cons h0 hs =>
      cases oe with
      | cons => unfold cS at h; cases h
      | nil =>
        cases fb with
        | cons => unfold cS at h; cases h
        | nil =>
          unfold cS at h
          obtain ⟨b', l, h1, h2, rfl⟩ := o2_some h
          obtain ⟨L, k1, k2⟩ := hds_ok ok.ok.hsc ok.ok.exc (h0 :: hs) l h2
          refine PS.imp (ps_try_many (tb := fun W' => RSs X Γ W' b') ok.stack ok.frame ok.ok.tk (fun W' pn xe tk ps => hb _ _ (ok.tr tk ps) b' h1) k1) fun E σ H h => ?_
          exact try_read ok.ok.hex (cHs_vD h2) (fun x C dd σ H h1 h2 => k2 W E x C dd σ H h1 h2) h
  | .FunctionDef .. => fun X W ok is h => by unfold cS at h; cases h
  | .AsyncFunctionDef .. => fun X W ok is h => by unfold cS at h; cases h
  | .ClassDef .. => fun X W ok is h => by unfold cS at h; cases h
  | .Delete .. => fun X W ok is h => by unfold cS at h; cases h
  | .TypeAlias .. => fun X W ok is h => by unfold cS at h; cases h
  | .AnnAssign .. => fun X W ok is h => by unfold cS at h; cases h
  | .AsyncFor .. => fun X W ok is h => by unfold cS at h; cases h
  | .With .. => fun X W ok is h => by unfold cS at h; cases h
  | .AsyncWith .. => fun X W ok is h => by unfold cS at h; cases h
  | .Match .. => fun X W ok is h => by unfold cS at h; cases h
  | .TryStar .. => fun X W ok is h => by unfold cS at h; cases h
  | .Assert .. => fun X W ok is h => by unfold cS at h; cases h
  | .Import .. => fun X W ok is h => by unfold cS at h; cases h
  | .ImportFrom .. => fun X W ok is h => by unfold cS at h; cases h
  | .Global .. => fun X W ok is h => by unfold cS at h; cases h
  | .Nonlocal .. => fun X W ok is h => by unfold cS at h; cases h
theorem snd_ss (ss : List Stmt) : ∀ (X : Cx) (W : WX) (ok : SOk X g N sc Γ W k) (is : List IS), cSs g N sc ss = some is → PSs X ss (RSs X Γ W is) :=
  match ss with
  | [] => fun X W ok is h => by
    unfold cSs at h
    cases h
    exact PSs.imp pss_nil fun _ _ _ h => nil_read h
  | s :: r => fun X W ok is h => by
    unfold cSs at h
    split at h
    case h_2 => cases h; exact ⟨fun _ _ _ _ _ _ ⟨_, ρ, c, _, _, hp⟩ => by simp only [dSs, dS, dE, ofE] at hp; exact hp.elim⟩
    rename_i x h1
    obtain ⟨y, h2, rfl⟩ := o1_some h
    exact PSs.imp (pss_cons (snd_s s X W ok x h1) (snd_ss r X W ok y h2)) fun _ _ _ h => seq_read h
end
end
end G
end

section
set_option Elab.async false
set_option linter.all false
set_option maxRecDepth 100000
set_option maxHeartbeats 4000000
set_option autoImplicit false
namespace G
open PySem L2
theorem lookup_zip : ∀ {ps : List Str} {us : List Value} {x : Str}, us.length = ps.length → x ∈ ps → ((ps.zip us).lookup x).isSome = true
  | [], _, _, _, h => nomatch h
  | p :: ps, [], _, h, _ => by cases h
  | p :: ps, u :: us, x, h, hx => by
    rw [List.zip_cons_cons, List.lookup_cons]
    by_cases e : x = p
    · subst e; simp
    · rw [beq_false_of_ne e]
      exact lookup_zip (by simpa using h) ((List.mem_cons.mp hx).resolve_left e)
theorem fm_congr {α β : Type} {f g : α → Option β} : ∀ {l : List α}, (∀ x ∈ l, f x = g x) → l.filterMap f = l.filterMap g
  | [], _ => rfl
  | a :: l, h => by
    rw [List.filterMap_cons, List.filterMap_cons, h a List.mem_cons_self, fm_congr fun x hx => h x (List.mem_cons_of_mem _ hx)]
theorem zip_back : ∀ {ps : List Str} {us : List Value}, us.length = ps.length → ps.Nodup → (ps.filterMap fun n => ((ps.zip us).lookup n).map (n, ·)) = ps.zip us
  | [], us, h, _ => by simp
  | p :: ps, [], h, _ => by cases h
  | p :: ps, u :: us, h, hn => by
    have hn' := List.nodup_cons.mp hn
    rw [List.zip_cons_cons, List.filterMap_cons]
    rw [List.lookup_cons, beq_self_eq_true]
    dsimp only [Option.map]
    congr 1
    refine Eq.trans (fm_congr fun x hx => ?_) (zip_back (ps := ps) (us := us) (by simpa using h) hn'.2)
    rw [List.lookup_cons, beq_false_of_ne (fun e => hn'.1 (by rw [← e]; exact hx))]
    dsimp only
    cases List.lookup x (ps.zip us) <;> rfl
theorem bind_all {name qual : Str} {args : List Arg} {body : List Stmt} {scope : Scope} {kV doc pm cdv ct : Value} {an : Option Addr} {us : List Value} (hn : (args.map (·.arg)).Nodup) (h : us.length = (args.map (·.arg)).length) :
    bindArgs (PySem.W.fnOf name qual ⟨[], args, none, [], [], none, []⟩ body scope .none kV doc pm an cdv ct) ⟨us, []⟩ = pure ((args.map (·.arg)).zip us) := by
  have hz := zip_back h hn
  have hm : ((args.map (·.arg)).filter fun n => (((args.map (·.arg)).zip us).lookup n).isNone) = [] := by
    rw [List.filter_eq_nil_iff]
    intro x hx
    have := lookup_zip h hx
    simpa using this
  unfold bindArgs
  have hl : ¬ (args.length < us.length) := by
    simp at h
    omega
  generalize hP : args.map (·.arg) = P at *
  have hPl : P.length = us.length := h.symm
  have hs : seqItems? Value.none = pure none := rfl
  simp only [PySem.W.fnOf, hs, List.map_nil, List.nil_append, List.append_nil, hP]
  have pb : ∀ {α β : Type} (a : α) (f : α → Sem β), (pure a >>= f) = f a := fun _ _ => rfl
  simp only [pb, Option.getD_none, List.forIn_nil, Array.toList_empty, List.drop_nil, List.length_nil, Nat.sub_zero, Option.isNone_none, Bool.and_true, hPl, List.zip_nil_right, List.take_of_length_le (Nat.le_of_eq hPl), hm, List.isEmpty_nil, Bool.not_true, Bool.false_eq_true, if_false, hz]
  rw [if_neg (by simp)]
/-! ### what the head's heap tells of a def -/
structure Spec where
  fns : List (String × List Str)
  lams : List (String × Addr × Addr)
  thks : List (String × List Str)
  consts : List (String × D)
  excs : List String
  /-- the defs that look how data are shown -/
  rps : List String
def Spec.pl (S : Spec) : List String := (S.fns.map (·.1)).filter fun f => !S.rps.contains f
/-- b: for a def that looks how data are shown -/
def Spec.gi (S : Spec) (lam b : Bool) : GI := ⟨if b = true then S.fns.map (·.1) else S.pl, S.thks.map (·.1), lam, S.consts, S.excs, S.pl, b⟩
structure Df where
  fa : Addr
  name : Str
  qual : Str
  args : List Arg
  body : List Stmt
  scope : Scope
  cdv : Value
def dfIn (K : PySem.W.Frag) (f : String) : Option Df := match PySem.W.nsIn K mainGlobals (Str.ofString f) with
  | some (some (.ref fa)) => (match K.lookup fa with
    | some ⟨_, _, .func ⟨name, qual, ⟨[], args, none, [], [], none, []⟩, .stmts body, scope, gl, [], .none, _, _, _, _, cdv, _, bl⟩, _⟩ =>
      if (gl == mainGlobals && bl == builtinsNs && PySem.W.keepIn K (.ref fa) && PySem.W.codeIn K cdv qual && decide (args.map (·.arg)).Nodup) = true then some ⟨fa, name, qual, args, body, scope, cdv⟩ else none
    | _ => none)
  | _ => none
structure Df.Ok (K : PySem.W.Frag) (f : String) (d : Df) (kV doc pm ct oc : Value) (an od : Option Addr) (osl : Array (Option Value)) : Prop where
  ns : PySem.W.nsIn K mainGlobals (Str.ofString f) = some (some (.ref d.fa))
  lk : K.lookup d.fa = some ⟨oc, od, .func (PySem.W.fnOf d.name d.qual ⟨[], d.args, none, [], [], none, []⟩ d.body d.scope .none kV doc pm an d.cdv ct), osl⟩
  keep : PySem.W.keepIn K (.ref d.fa) = true
  code : PySem.W.codeIn K d.cdv d.qual = true
  nd : (d.args.map (·.arg)).Nodup
theorem dfIn_some {K : PySem.W.Frag} {f : String} {d : Df} (h : dfIn K f = some d) : ∃ kV doc pm ct oc an od osl, d.Ok K f kV doc pm ct oc an od osl := by
  unfold dfIn at h
  split at h
  · rename_i fa h1
    split at h
    · rename_i oc od name qual args body scope gl kV doc pm an cdv ct bl osl h2
      split at h
      · rename_i h3
        simp only [Bool.and_eq_true, beq_iff_eq, decide_eq_true_eq] at h3
        obtain ⟨⟨⟨⟨rfl, rfl⟩, h4⟩, h5⟩, h6⟩ := h3
        cases h
        exact ⟨kV, doc, pm, ct, oc, an, od, osl, h1, h2, h4, h5, h6⟩
      · cases h
    · cases h
  · cases h
theorem Df.Ok.binds {K : PySem.W.Frag} {f : String} {d : Df} {kV doc pm ct oc : Value} {an od : Option Addr} {osl : Array (Option Value)} (o : d.Ok K f kV doc pm ct oc an od osl) :
    Binds K (PySem.W.fnOf d.name d.qual ⟨[], d.args, none, [], [], none, []⟩ d.body d.scope .none kV doc pm an d.cdv ct) (d.args.map (·.arg)) [] := .all fun us h => bind_all o.nd h
/-- a def's form -/
def cDef (K : PySem.W.Frag) (S : Spec) (f : String) (N : List Str) : Option Fn := match dfIn K f with
  | some d => (match S.lams.lookup f with
    | none => cFn (S.gi false (S.rps.contains f)) N ⟨[], d.args, none, [], [], none, []⟩ d.body d.scope
    | some (c, P) => if (d.cdv == .ref c && PySem.W.codeHdIn K c P && d.qual == Str.ofString f && (K.lookup P).isNone) = true then cFn (S.gi true (S.rps.contains f)) N ⟨[], d.args, none, [], [], none, []⟩ d.body d.scope else none)
  | none => none
def cThkIn (K : PySem.W.Frag) (S : Spec) (f : String) (N : List Str) : Option Thk := match dfIn K f with
  | some d => (match d.args with
    | [a] => if (d.name == Str.ofString f && d.qual == Str.ofString f && fnScB N [a.arg] d.scope && decide (N[0]? = some a.arg) && plainN a.arg) = true then cThk S.excs d.scope a.arg d.body else none
    | _ => none)
  | none => none
def constIn (K : PySem.W.Frag) (p : String × D) : Bool := match PySem.W.nsIn K mainGlobals (Str.ofString p.1), p.2 with
  | some (some .none), .non => true
  | some (some (.bool b)), .bl b' => b == b'
  | some (some (.int i _)), .int j => i == j
  | some (some (.str x _)), .str y => x == y
  | _, _ => false
def excAd (K : PySem.W.Frag) (x : String) : Option Addr := match PySem.W.nsIn K mainGlobals (Str.ofString x) with
  | some (some (.ref C)) => if (PySem.W.excIn K C [.type "ValueError", .type "Exception", .type "BaseException", .type "object"] "ValueError.__new__" && PySem.W.keepIn K (.ref C) && PySem.W.subIn K (.ref C) (.type "BaseException") == some true && PySem.W.typeIn K (.ref C) == some (.type "type")) = true then some C else none
  | _ => none
def excsIn (K : PySem.W.Frag) (ex : List String) : Bool := ex.all fun x => match excAd K x with
  | some C => ex.all fun y => match excAd K y with
    | some C' => PySem.W.exmOne K (.ref C) (.ref C') == some (decide (x = y))
    | none => false
  | none => false
def lawIn (K : PySem.W.Frag) : Bool := match dfIn K "law" with
  | some d => d.args.map (·.arg) == [("script" : Str)]
  | none => false
def restIn (K : PySem.W.Frag) (S : Spec) : Bool := lawIn K && (S.lams.all fun p => PySem.W.codeHdIn K p.2.1 p.2.2 && (K.lookup p.2.2).isNone) && S.consts.all (constIn K) && bltNames.all (fun b => PySem.W.nsIn K mainGlobals (Str.ofString b) == some none) && excsIn K S.excs && decide (S.lams.map (·.2.2)).Nodup
def cAll {α β : Type} (f : String → α → Option β) : List (String × α) → Option (List (String × β))
  | [] => some []
  | (x, a) :: r => o2 (fun b l => (x, b) :: l) (f x a) (cAll f r)
def compile (K : PySem.W.Frag) (S : Spec) : Option Tab := if restIn K S = true then o2 (fun a b => ⟨a, b, S.excs⟩) (cAll (cDef K S) S.fns) (cAll (cThkIn K S) S.thks) else none
theorem cAll_look {α β : Type} {f : String → α → Option β} : ∀ {l : List (String × α)} {r : List (String × β)}, cAll f l = some r → ∀ x ∈ l.map (·.1), ∃ a b, f x a = some b ∧ r.lookup x = some b
  | [], r, h, x, hx => nomatch hx
  | (y, a) :: l, r, h, x, hx => by
    unfold cAll at h
    obtain ⟨b, r', h1, h2, rfl⟩ := o2_some h
    by_cases e : x = y
    · subst e
      exact ⟨a, b, h1, by rw [List.lookup_cons, beq_self_eq_true]⟩
    · rw [List.map_cons] at hx
      obtain ⟨a', b', h3, h4⟩ := cAll_look h2 x ((List.mem_cons.mp hx).resolve_left e)
      exact ⟨a', b', h3, by rw [List.lookup_cons, beq_false_of_ne e]; exact h4⟩
def Spec.tabs (S : Spec) : List (Addr × Str) := S.lams.map fun p => (p.2.2, Str.ofString p.1 ++ ".<locals>." ++ "<lambda>")
variable [Tables]
/-! ### what a call leaves behind -/
section
variable {K : PySem.W.Frag} {ι ι1 : List (Addr × Bool)} {H H1 : Hp} {c c' : Cells}
mutual
theorem Rep.less (ex : List (Addr × Bool)) : ∀ (d : D) (v : V), d.bel ι.length = true → Rep K (ι ++ ex) H d v → Rep K ι H d v
  | .non, _, _, h => h
  | .bl _, _, _, h => h
  | .int _, _, _, h => h
  | .str _, _, _, h => h
  | .tup xs, v, hb, h => by
    obtain ⟨a, vs, rfl, hs, hr⟩ := h
    exact ⟨a, vs, rfl, hs, Reps.less ex xs vs (by simpa [D.bel] using hb) hr⟩
  | .ref n, v, hb, h => by
    obtain ⟨a, rfl, w, h⟩ := h
    have hn : n < ι.length := by simpa [D.bel] using hb
    rw [List.getElem?_append_left hn] at h
    exact ⟨a, rfl, w, h⟩
theorem Reps.less (ex : List (Addr × Bool)) : ∀ (d : List D) (v : List V), D.bels ι.length d = true → Reps K (ι ++ ex) H d v → Reps K ι H d v
  | [], _, _, h => h
  | x :: xs, vs, hb, h => by
    obtain ⟨w, ws, rfl, h1, h2⟩ := h
    have hb' : x.bel ι.length = true ∧ D.bels ι.length xs = true := by simpa [D.bels] using hb
    exact ⟨w, ws, rfl, Rep.less ex x w hb'.1 h1, Reps.less ex xs ws hb'.2 h2⟩
end
mutual
theorem Rep.bel : ∀ (d : D) (v : V), Rep K ι H d v → d.bel ι.length = true
  | .non, _, _ => by simp [D.bel]
  | .bl _, _, _ => by simp [D.bel]
  | .int _, _, _ => by simp [D.bel]
  | .str _, _, _ => by simp [D.bel]
  | .tup xs, v, h => by
    obtain ⟨a, vs, rfl, hs, hr⟩ := h
    simpa [D.bel] using Reps.bel xs vs hr
  | .ref n, v, h => by
    obtain ⟨a, rfl, w, h⟩ := h
    simpa [D.bel] using (List.getElem?_eq_some_iff.mp h).1
theorem Reps.bel : ∀ (d : List D) (v : List V), Reps K ι H d v → D.bels ι.length d = true
  | [], _, _ => by simp [D.bels]
  | x :: xs, vs, h => by
    obtain ⟨w, ws, rfl, h1, h2⟩ := h
    simp [D.bels, Rep.bel x w h1, Reps.bel xs ws h2]
end
theorem CellRep.less {a : Addr} {x : Cell} (ex : List (Addr × Bool)) (hb : x.bel ι.length = true) (h : CellRep K (ι ++ ex) H a x) : CellRep K ι H a x := by
  cases x with
  | lst xs => obtain ⟨vs, h1, h2⟩ := h; exact ⟨vs, h1, Reps.less ex _ _ (by simpa [Cell.bel] using hb) h2⟩
  | frz xs => obtain ⟨vs, h1, h2⟩ := h; exact ⟨vs, h1, Reps.less ex _ _ (by simpa [Cell.bel] using hb) h2⟩
  | dct _ => exact h.elim
  | set _ => exact h.elim
theorem CellRep.bel {a : Addr} {x : Cell} (h : CellRep K ι H a x) : x.bel ι.length = true := by
  cases x with
  | lst xs => obtain ⟨vs, h1, h2⟩ := h; simpa [Cell.bel] using Reps.bel _ _ h2
  | frz xs => obtain ⟨vs, h1, h2⟩ := h; simpa [Cell.bel] using Reps.bel _ _ h2
  | dct _ => exact h.elim
  | set _ => exact h.elim
/-- the first cells alone -/
theorem gc_take (h0 : HRep K ι H c) (e : Ext ι H ι1 H1) (h1 : HRep K ι1 H1 c') (hk : kept c c' = true) : Ext ι H ι H1 ∧ HRep K ι H1 (c'.take c.length) ∧ ∃ ex, ι1 = ι ++ ex := by
  obtain ⟨⟨ex, rfl, nx⟩, t1, f1, o1, d1⟩ := e
  unfold kept at hk
  simp only [Bool.and_eq_true, decide_eq_true_eq, List.all_eq_true, List.mem_range] at hk
  refine ⟨⟨⟨[], by simp, by simp⟩, t1, f1, o1, d1⟩, ⟨?_, ?_, ?_, h1.tab⟩, ex, rfl⟩
  · rw [List.length_take, h0.len]; omega
  · intro n m a hn hm
    exact h1.inj n m a (by rw [List.getElem?_append_left (List.getElem?_eq_some_iff.mp hn).1]; exact hn) (by rw [List.getElem?_append_left (List.getElem?_eq_some_iff.mp hm).1]; exact hm)
  · intro n a w x hn hx
    have hl := (List.getElem?_eq_some_iff.mp hn).1
    have hl' : n < c.length := by rw [← h0.len]; exact hl
    rw [List.getElem?_take_of_lt hl'] at hx
    obtain ⟨g1, g2, g3⟩ := h1.cel n a w x (by rw [List.getElem?_append_left hl]; exact hn) hx
    refine ⟨CellRep.less ex ?_ g1, g2, g3⟩
    have := hk.2 n hl'
    rw [hx] at this
    simp only [Bool.or_eq_true, decide_eq_true_eq] at this
    rcases this with q | q
    · exact (h0.cel n a w x hn q.symm).1.bel
    · rw [h0.len]; exact q
theorem gc_post {mg : Str → Option Value} {Q : V → Hp → Prop} {W : WX} (h0 : HRep K ι H c) {r : R D} (h : Post K mg W [] ι H (gcR c r) fun d _ ι' H' => ∀ v, Rep K ι' H' d v → Q v H') :
    Post K mg W [] ι H r fun d _ ι' H' => ∀ v, Rep K ι' H' d v → Q v H' := by
  cases r with
  | no => exact h
  | ex x c' =>
    unfold gcR at h; dsimp only at h
    by_cases hk : kept c c' = true
    · rw [if_pos hk] at h
      intro ι' H' C e h1 g
      obtain ⟨e2, h2, _⟩ := gc_take h0 e h1 hk
      exact h ι H' C e2 h2 g
    · rw [if_neg hk] at h; exact h
  | ok d c' =>
    unfold gcR at h; dsimp only at h
    by_cases hk : kept c c' = true
    · rw [if_pos hk] at h
      by_cases hb : d.bel c.length = true
      · rw [if_pos hb] at h
        intro ι' H' e h1 v rv
        obtain ⟨e2, h2, ex, rfl⟩ := gc_take h0 e h1 hk
        exact h ι H' e2 h2 v (Rep.less ex d v (by rw [h0.len]; exact hb) rv)
      · rw [if_neg hb] at h
        split at h
        · rename_i m
          split at h
          · rename_i xs hm
            split at h
            · rename_i hx
              intro ι' H' e h1 v rv
              obtain ⟨e2, h2, ex, rfl⟩ := gc_take h0 e h1 hk
              have hmn : ι.length ≤ m := by
                rw [h0.len]
                have : ¬ m < c.length := by simpa [D.bel] using hb
                omega
              obtain ⟨a, rfl, w, ha⟩ := rv
              obtain ⟨a', vs, q1, q2, q3⟩ := h1.lstW hm
              rw [ha] at q1
              cases q1
              have hex : (a, true) ∈ ex := by
                rw [List.getElem?_append_right hmn] at ha
                exact List.mem_of_getElem? ha
              have nx : NT H a := by
                obtain ⟨⟨ex', he, nx⟩, _⟩ := e
                have : ex = ex' := List.append_cancel_left he
                subst this
                exact nx _ hex
              refine h (ι ++ [(a, true)]) H' ⟨⟨[(a, true)], rfl, fun p hp => by rw [List.mem_singleton.mp hp]; exact nx⟩, e2.tup, e2.frz, e2.oth, e2.dom⟩ ⟨?_, ?_, ?_, h2.tab⟩ _ ⟨a, rfl, true, ?_⟩
              · rw [List.length_append, List.length_append, h2.len]; rfl
              · intro i j b hi hj
                have key : ∀ {i : Nat} {b : Addr}, (ι ++ [(a, true)])[i]? = some (b, true) → ∃ i', (ι ++ ex)[i']? = some (b, true) ∧ ((i < ι.length ∧ i' = i) ∨ (i = ι.length ∧ i' = m)) := fun {i b} hi => by
                  by_cases hl : i < ι.length
                  · rw [List.getElem?_append_left hl] at hi
                    exact ⟨i, by rw [List.getElem?_append_left hl]; exact hi, .inl ⟨hl, rfl⟩⟩
                  · have hl2 := (List.getElem?_eq_some_iff.mp hi).1
                    rw [List.length_append] at hl2
                    have : i = ι.length := by simp at hl2; omega
                    subst this
                    rw [List.getElem?_append_right (Nat.le_refl _), Nat.sub_self] at hi
                    cases hi
                    exact ⟨m, ha, .inr ⟨rfl, rfl⟩⟩
                obtain ⟨i', z1, z2⟩ := key hi
                obtain ⟨j', z3, z4⟩ := key hj
                have := h1.inj i' j' b z1 z3
                omega
              · intro n b u x hn hx2
                by_cases hl : n < ι.length
                · rw [List.getElem?_append_left hl] at hn
                  rw [List.getElem?_append_left (by rw [← h2.len]; exact hl)] at hx2
                  obtain ⟨g1, g2, g3⟩ := h2.cel n b u x hn hx2
                  refine ⟨?_, g2, g3⟩
                  cases x with
                  | lst ys => obtain ⟨vs, k1, k2⟩ := g1; exact ⟨vs, k1, Reps.more _ _ _ k2⟩
                  | frz ys => obtain ⟨vs, k1, k2⟩ := g1; exact ⟨vs, k1, Reps.more _ _ _ k2⟩
                  | dct _ => exact g1.elim
                  | set _ => exact g1.elim
                · have hl2 := (List.getElem?_eq_some_iff.mp hn).1
                  rw [List.length_append] at hl2
                  have : n = ι.length := by simp at hl2; omega
                  subst this
                  rw [List.getElem?_append_right (Nat.le_refl _), Nat.sub_self] at hn
                  cases hn
                  rw [List.getElem?_append_right (by rw [h2.len]; exact Nat.le_refl _), h2.len, Nat.sub_self] at hx2
                  cases hx2
                  exact ⟨⟨vs, q2, Reps.more _ _ _ (Reps.less ex _ _ (by rw [h0.len]; exact hx) q3)⟩, fun _ => mu_lst _, nofun⟩
              · rw [← h0.len, List.getElem?_append_right (Nat.le_refl _), Nat.sub_self]; rfl
            · exact h
          · exact h
        · exact h
    · rw [if_neg hk] at h; exact h
end
theorem fnSc_some {N P : List Str} {sc : Scope} (h : fnScB N P sc = true) : FnScope N P sc := by
  unfold fnScB at h
  simp only [Bool.and_eq_true, Bool.not_eq_true', decide_eq_true_eq, List.all_eq_true] at h
  obtain ⟨⟨⟨⟨⟨⟨h1, h2⟩, h3⟩, h4⟩, h5⟩, h6⟩, h7⟩ := h
  refine ⟨?_, h2, h3, h4, h5, fun x hx => loc_of (h6 x hx), fun y hy z => ?_⟩
  · split at h1
    · assumption
    · cases h1
  · have := h7 y hy
    rw [z] at this
    cases this
theorem cFn_some {g : GI} {N : List Str} {args : List Arg} {body : List Stmt} {sc : Scope} {fn : Fn} (h : cFn g N ⟨[], args, none, [], [], none, []⟩ body sc = some fn) :
    FnScope N (args.map (·.arg)) sc ∧ ∃ b, cSs g N sc body = some b ∧ fn = ⟨args.length, N.length, b⟩ := by
  unfold cFn at h
  split at h
  · rename_i hh
    obtain ⟨b, h1, rfl⟩ := o1_some h
    simp only [Bool.and_eq_true] at hh
    exact ⟨fnSc_some hh.2, b, h1, rfl⟩
  · cases h
section
variable {P : Program} {w : World} {K : PySem.W.Frag} {mg : Str → Option Value} {base : Heap} {S : Spec} {T : Tab}
theorem consts_ok (KX : K.In base) (G : base.Ns mainGlobals mg) (h : S.consts.all (constIn K) = true) : ∀ x d, lookC S.consts x = some d → ∃ u v, mg x = some u ∧ RelV v u ∧ ∀ ι H, Rep K ι H d v := by
  intro x d hx
  unfold lookC at hx
  obtain ⟨p, hp, rfl⟩ := Option.map_eq_some_iff.mp hx
  have hm := List.mem_of_find?_eq_some hp
  have he : Str.ofString p.1 = x := beq_iff_eq.mp (List.find?_some (p := fun p : String × D => Str.ofString p.1 == x) hp)
  subst he
  have hk := List.all_eq_true.mp h p hm
  unfold constIn at hk
  split at hk
  · rename_i h1 h2
    rw [h2]
    exact ⟨_, .non, PySem.W.mg_of KX G h1, rfl, fun _ _ => rfl⟩
  · rename_i b b' h1 h2
    rw [h2]
    cases beq_iff_eq.mp hk
    exact ⟨_, .bl b, PySem.W.mg_of KX G h1, rfl, fun _ _ => rfl⟩
  · rename_i i t j h1 h2
    rw [h2]
    cases beq_iff_eq.mp hk
    exact ⟨_, .int i, PySem.W.mg_of KX G h1, ⟨_, rfl⟩, fun _ _ => rfl⟩
  · rename_i x t y h1 h2
    rw [h2]
    cases beq_iff_eq.mp hk
    exact ⟨_, .str x, PySem.W.mg_of KX G h1, ⟨_, rfl⟩, fun _ _ => rfl⟩
  · cases hk
theorem excAd_some (KX : K.In base) (G : base.Ns mainGlobals mg) {x : String} {C : Addr} (h : excAd K x = some C) : mg (Str.ofString x) = some (.ref C) ∧ PySem.W.excIn K C [.type "ValueError", .type "Exception", .type "BaseException", .type "object"] "ValueError.__new__" = true ∧ PySem.W.keepIn K (.ref C) = true ∧
    PySem.W.subIn K (.ref C) (.type "BaseException") = some true ∧ PySem.W.typeIn K (.ref C) = some (.type "type") := by
  unfold excAd at h
  split at h
  · rename_i C' h1
    split at h
    · rename_i hh
      cases h
      simp only [Bool.and_eq_true, beq_iff_eq] at hh
      exact ⟨PySem.W.mg_of KX G h1, hh.1.1.1, hh.1.1.2, hh.1.2, hh.2⟩
    · cases h
  · cases h
theorem excs_ok (KX : K.In base) (G : base.Ns mainGlobals mg) (h : excsIn K S.excs = true) : ExcOk K mg S.excs := by
  unfold excsIn at h
  have ad : ∀ x ∈ S.excs, ∃ C, excAd K x = some C := fun x hx => by
    have := List.all_eq_true.mp h x hx
    split at this
    · exact ⟨_, by assumption⟩
    · cases this
  refine ⟨fun x hx => ?_, fun x hx y hy C C' h1 h2 => ?_, fun x hx C h1 => ?_⟩
  · obtain ⟨C, hC⟩ := ad x hx
    exact ⟨C, (excAd_some KX G hC).1⟩
  · have hk := List.all_eq_true.mp h x hx
    obtain ⟨C1, hC1⟩ := ad x hx
    obtain ⟨C2, hC2⟩ := ad y hy
    rw [hC1] at hk
    have hk2 := List.all_eq_true.mp hk y hy
    rw [hC2] at hk2
    have e1 := (excAd_some KX G hC1).1
    have e2 := (excAd_some KX G hC2).1
    rw [h1] at e1
    rw [h2] at e2
    cases e1
    cases e2
    exact beq_iff_eq.mp hk2
  · obtain ⟨C1, hC1⟩ := ad x hx
    obtain ⟨e1, e2, e3, e4, e5⟩ := excAd_some KX G hC1
    rw [h1] at e1
    cases e1
    exact ⟨_, _, _, _, PySem.F.excBase_ValueError, e2, e3, e4, e5⟩
theorem thks_ok (KX : K.In base) (G : base.Ns mainGlobals mg) (h : cAll (cThkIn K S) S.thks = some T.thks) : ∀ f ∈ S.thks.map (·.1), ∃ t, T.thks.lookup f = some t ∧ ThkHas K mg S.excs f t := by
  intro f hf
  obtain ⟨N, t, h1, h2⟩ := cAll_look h f hf
  refine ⟨t, h2, ?_⟩
  unfold cThkIn at h1
  split at h1
  · rename_i d hd
    obtain ⟨kV, doc, pm, ct, oc, an, od, osl, o⟩ := dfIn_some hd
    split at h1
    · rename_i a ha
      split at h1
      · rename_i hh
        simp only [Bool.and_eq_true, beq_iff_eq, decide_eq_true_eq] at hh
        obtain ⟨⟨⟨⟨q1, q2⟩, q3⟩, q4⟩, q5⟩ := hh
        have lk := o.lk
        have bd := o.binds
        have cd := o.code
        rw [q1, q2] at lk bd
        rw [q2] at cd
        exact ⟨d.fa, a.arg, _, d.body, d.scope, _, kV, doc, pm, d.cdv, ct, oc, an, od, osl, N, PySem.W.mg_of KX G o.ns, o.keep, lk, cd, by rw [ha] at bd ⊢; exact bd, fnSc_some q3, q4, q5, h1⟩
      · cases h1
    · cases h1
  · cases h1
theorem look_mem {β : Type} : ∀ {l : List (String × β)} {x : String} {b : β}, l.lookup x = some b → (x, b) ∈ l
  | (y, c) :: l, x, b, h => by
    rw [List.lookup_cons] at h
    split at h
    · rename_i e
      cases h
      rw [beq_iff_eq.mp e]
      exact List.mem_cons_self
    · exact List.mem_cons_of_mem _ (look_mem h)
theorem nodup_snd {α β : Type} : ∀ {l : List (α × β)}, (l.map (·.2)).Nodup → ∀ p ∈ l, ∀ q ∈ l, p.2 = q.2 → p = q
  | [], _, _, h, _, _, _ => nomatch h
  | x :: l, hn, p, hp, q, hq, e => by
    have hn' := List.nodup_cons.mp hn
    rcases List.mem_cons.mp hp with e1 | hp1
    · rcases List.mem_cons.mp hq with e2 | hq1
      · rw [e1, e2]
      · exact absurd (by show x.2 ∈ _; rw [← e1, e]; exact List.mem_map_of_mem hq1) hn'.1
    · rcases List.mem_cons.mp hq with e2 | hq1
      · exact absurd (by show x.2 ∈ _; rw [← e2, ← e]; exact List.mem_map_of_mem hp1) hn'.1
      · exact nodup_snd hn'.2 p hp1 q hq1 e
theorem Reps.len {ι : List (Addr × Bool)} {H : Hp} {xs : List D} {vs : List V} (h : Reps K ι H xs vs) : vs.length = xs.length := h.length
theorem start_rep {ι : List (Addr × Bool)} {H : Hp} {N : List Str} {fn : Fn} (hl : fn.nl = N.length) : ∀ {xs : List D} {vs : List V}, Reps K ι H xs vs → SRep K ι H (L2.start N vs) (start fn xs) := by
  intro xs vs h
  have hlen := h.length
  refine ⟨by unfold L2.start G.start; simp [hlen, hl], fun i d hd => ?_⟩
  unfold G.start at hd
  by_cases hi : i < xs.length
  · rw [List.getElem?_append_left (by simpa using hi), List.getElem?_map] at hd
    obtain ⟨x, h1, h2⟩ := Option.map_eq_some_iff.mp hd
    cases h2
    obtain ⟨v, h3, h4⟩ := h.get h1
    refine ⟨v, ?_, h4⟩
    unfold L2.start
    rw [List.getElem?_append_left (by simpa [hlen] using hi), List.getElem?_map, h3]
    rfl
  · rw [List.getElem?_append_right (by simpa using hi)] at hd
    have := List.mem_of_getElem? hd
    rw [List.mem_replicate] at this
    cases this.2
/-- the def f of the head's heap, and its promise -/
def FnHas2 (b : Bool) (P : Program) (w : World) (K : PySem.W.Frag) (mg : Str → Option Value) (base : Heap) (call : String → List D → Cells → R D) (k : Nat) (f : String) : Prop :=
  ∃ (d : Df) (kV doc pm ct oc : Value) (an od : Option Addr) (osl : Array (Option Value)), dfIn K f = some d ∧ d.Ok K f kV doc pm ct oc an od osl ∧
    FnX b P w K mg base (L2.CX P w) k d.fa (PySem.W.fnOf d.name d.qual ⟨[], d.args, none, [], [], none, []⟩ d.body d.scope .none kV doc pm an d.cdv ct) (d.args.map (·.arg)) (spOf K mg call f)
theorem FnHas2.any {b : Bool} {call : String → List D → Cells → R D} {k : Nat} {f : String} (h : FnHas2 false P w K mg base call k f) : FnHas2 b P w K mg base call k f := by
  obtain ⟨d, kV, doc, pm, ct, oc, an, od, osl, q, o, F⟩ := h
  exact ⟨d, kV, doc, pm, ct, oc, an, od, osl, q, o, F.any b⟩
theorem FnHas2.has (KX : K.In base) (G : base.Ns mainGlobals mg) {call : String → List D → Cells → R D} {k : Nat} {f : String} {b : Bool} (h : FnHas2 b P w K mg base call k f) : FnHas b P w K mg base call k f := by
  obtain ⟨d, kV, doc, pm, ct, oc, an, od, osl, _, o, F⟩ := h
  exact ⟨d.fa, _, _, PySem.W.mg_of KX G o.ns, o.keep, o.binds, F⟩
theorem fns_ok (KX : K.In base) (G : base.Ns mainGlobals mg) (hc : compile K S = some T) (hT : Tables.T = S.tabs) (hB : ∀ p ∈ S.lams, LamX.TabB base mg p.2.1 p.2.2) : ∀ k, ∀ f ∈ S.fns.map (·.1), FnHas2 (S.rps.contains f) P w K mg base (callD T k) (3 * k) f := by
  unfold compile at hc
  split at hc
  case isFalse => cases hc
  rename_i hr
  obtain ⟨a, b, h1, h2, rfl⟩ := o2_some hc
  unfold restIn at hr
  simp only [Bool.and_eq_true, decide_eq_true_eq] at hr
  obtain ⟨⟨⟨⟨_, r1⟩, r2⟩, r3⟩, r4⟩ := hr
  intro k
  induction k with
  | zero =>
    intro f hf
    obtain ⟨N, fn, h3, h4⟩ := cAll_look h1 f hf
    unfold cDef at h3
    split at h3
    · rename_i d hd
      obtain ⟨kV, doc, pm, ct, oc, an, od, osl, o⟩ := dfIn_some hd
      refine ⟨d, kV, doc, pm, ct, oc, an, od, osl, hd, o, fun vs H Q E ⟨ι, c, ds, _, _, hp⟩ => hp.elim, fun A outer s H args us vs Q E hr hgd he hb hv hs => ?_⟩
      obtain ⟨ι, c, ds, _, _, hp⟩ := hs
      exact hp.elim
    · cases h3
  | succ k ih =>
    intro f hf
    obtain ⟨N, fn, h3, h4⟩ := cAll_look h1 f hf
    unfold cDef at h3
    split at h3
    case h_2 => cases h3
    rename_i d hd
    obtain ⟨kV, doc, pm, ct, oc, an, od, osl, o⟩ := dfIn_some hd
    obtain ⟨lam, hfn, hlam⟩ : ∃ lam, cFn (S.gi lam (S.rps.contains f)) N ⟨[], d.args, none, [], [], none, []⟩ d.body d.scope = some fn ∧ (lam = true → ∃ c P, d.cdv = .ref c ∧ LamX.TabB base mg c P ∧ (P, d.qual ++ ".<locals>." ++ "<lambda>") ∈ Tables.T ∧ ∀ p ∈ Tables.T, p.1 = P → p.2 = d.qual ++ ".<locals>." ++ "<lambda>") := by
      split at h3
      · exact ⟨false, h3, nofun⟩
      · rename_i c P hl
        split at h3
        · rename_i hh
          simp only [Bool.and_eq_true, beq_iff_eq] at hh
          have hm : (f, c, P) ∈ S.lams := look_mem hl
          refine ⟨true, h3, fun _ => ⟨c, P, hh.1.1.1, hB _ hm, ?_, fun p hp e => ?_⟩⟩
          · rw [hT, hh.1.2]
            exact List.mem_map.mpr ⟨_, hm, rfl⟩
          · rw [hT] at hp
            obtain ⟨q, hq, rfl⟩ := List.mem_map.mp hp
            have nd : (S.lams.map fun p => p.2.2).Nodup := r4
            have e2 : q = (f, c, P) := by
              have n2 : ((S.lams.map fun p => ((p.1, p.2.1), p.2.2)).map (·.2)).Nodup := by rw [List.map_map]; exact nd
              have := nodup_snd n2 ((q.1, q.2.1), q.2.2) (List.mem_map.mpr ⟨q, hq, rfl⟩) ((f, c), P) (List.mem_map.mpr ⟨_, hm, rfl⟩) e
              cases q with
              | mk q1 q2 => cases q2; cases this; rfl
            rw [e2, hh.1.2]
        · cases h3
    obtain ⟨sc, b', hb', rfl⟩ := cFn_some hfn
    refine ⟨d, kV, doc, pm, ct, oc, an, od, osl, hd, o, ?_⟩
    have len : ∀ vs H Q E, spOf K mg (callD ⟨a, b, S.excs⟩ (k + 1)) f vs H Q E → vs.length = (d.args.map (·.arg)).length := by
      rintro vs H Q E ⟨ι, c, ds, hH, hR, hp⟩
      unfold callD at hp
      rw [h4] at hp
      dsimp only at hp
      split at hp
      · rename_i hl
        rw [hR.length, hl, List.length_map]
      · exact hp.elim
    refine (FnX.of (CX := L2.CX P w) (k := 3 * k + 2) o.lk o.code sc len fun A outer s H vs Q E hr hgd hsp => ?_ : FnX _ P w K mg base (L2.CX P w) (3 * k + 2 + 1) d.fa _ _ _)
    obtain ⟨ι, c, ds, hH, hR, hp⟩ := hsp
    unfold callD at hp
    rw [h4] at hp
    dsimp only at hp
    split at hp
    case isFalse => exact hp.elim
    rename_i hl
    replace hp := gc_post hH hp
    let X := cxOf (L2.CX P w) P w K mg base N d.qual d.scope d.fa d.cdv A outer s H E
    let Γ : Ctx := ⟨callD ⟨a, b, S.excs⟩ k, b, S.excs⟩
    have tk : Takes X (fun cls d _ H => E cls d H) := L2.takes_of rfl rfl rfl rfl
    have ok : Ok X (S.gi lam (S.rps.contains f)) N d.scope Γ (fun cls d _ H => E cls d H) (3 * k) :=
      ⟨rfl, sc.nd, rfl, rfl, tk, L2.passes_of rfl, hr.mono (by omega), consts_ok KX G r1, fun x bb hx => by
        obtain ⟨q1, q2⟩ := look_get hx
        have := List.all_eq_true.mp r2 bb q2
        rw [← q1]
        exact PySem.W.mg_none_of KX G (beq_iff_eq.mp this), fun f' hf' => by
        have hpl : ∀ f' ∈ S.pl, FnHas2 false P w K mg base (callD ⟨a, b, S.excs⟩ k) (3 * k) f' := fun f' hf' => by
          obtain ⟨m1, m2⟩ := List.mem_filter.mp hf'
          have := ih f' m1
          rw [show S.rps.contains f' = false by simpa using m2] at this
          exact this
        have hf' : f' ∈ (if S.rps.contains f = true then S.fns.map (·.1) else S.pl) := hf'
        show FnHas (S.rps.contains f) P w K mg base (callD ⟨a, b, S.excs⟩ k) (3 * k) f'
        by_cases z : S.rps.contains f = true
        · rw [if_pos z] at hf'
          rw [z]
          have q := ih f' hf'
          cases zz : S.rps.contains f' with
          | true => rw [zz] at q; exact q.has KX G
          | false => rw [zz] at q; exact (q.any (b := true)).has KX G
        · rw [if_neg z] at hf'
          rw [show S.rps.contains f = false by simpa using z]
          exact (hpl f' hf').has KX G, fun f' hf' => by
        obtain ⟨m1, m2⟩ := List.mem_filter.mp hf'
        have := ih f' m1
        rw [show S.rps.contains f' = false by simpa using m2] at this
        exact this.has KX G, fun z => hgd z, excs_ok KX G r3, rfl, thks_ok (T := ⟨a, b, S.excs⟩) KX G h2, fun hlm => by
        obtain ⟨c1, P1, e1, e2, e3, e4⟩ := hlam hlm
        exact ⟨hr, c1, P1, e1, e2, e3, e4⟩⟩
    have sok : SOk X (S.gi lam (S.rps.contains f)) N d.scope Γ (fun cls d _ H => E cls d H) (3 * k) :=
      ⟨ok, ⟨rfl, sc.nd, rfl, fun x hx => ⟨loc_of hx, .inl rfl⟩⟩, rfl, rfl⟩
    refine ⟨RSs X Γ (fun cls d _ H => E cls d H) b', snd_ss d.body X _ sok b' hb', ι, _, c, start_rep (fn := ⟨d.args.length, N.length, b'⟩) rfl hR, hH, ?_⟩
    show PostS K mg (fun cls d _ H => E cls d H) ι H (dSs Γ b' (start ⟨d.args.length, N.length, b'⟩ ds) c) _
    cases q : dSs Γ b' (start ⟨d.args.length, N.length, b'⟩ ds) c with
    | nx ρ c' =>
      have : ofS (dSs Γ b' (start ⟨d.args.length, N.length, b'⟩ ds) c) = .ok .non c' := by rw [q]; rfl
      rw [this] at hp
      exact fun ι' H' σ' e1 h1 s1 => hp ι' H' e1 h1 _ rfl
    | rt dd c' =>
      have : ofS (dSs Γ b' (start ⟨d.args.length, N.length, b'⟩ ds) c) = .ok dd c' := by rw [q]; rfl
      rw [this] at hp
      exact fun ι' H' v e1 h1 r1 => hp ι' H' e1 h1 v r1
    | ex x ρ c' =>
      have : ofS (dSs Γ b' (start ⟨d.args.length, N.length, b'⟩ ds) c) = .ex x c' := by rw [q]; rfl
      rw [this] at hp
      exact fun ι' H' σ' C e1 h1 s1 g => hp ι' H' C e1 h1 g
    | bk ρ c' =>
      have : ofS (dSs Γ b' (start ⟨d.args.length, N.length, b'⟩ ds) c) = .no := by rw [q]; rfl
      rw [this] at hp
      exact hp.elim
    | ct ρ c' =>
      have : ofS (dSs Γ b' (start ⟨d.args.length, N.length, b'⟩ ds) c) = .no := by rw [q]; rfl
      rw [this] at hp
      exact hp.elim
    | no =>
      have : ofS (dSs Γ b' (start ⟨d.args.length, N.length, b'⟩ ds) c) = .no := by rw [q]; rfl
      rw [this] at hp
      exact hp.elim
end
/-! ### the end of a law -/
section
open PySem.Spec PyProof.Rows
omit [Tables] in
theorem law_end {l : PySem.W.OpenLaw} {n k : Nat} {q : Program} {loose : List Str} {XP : (Str → Option Value) → Heap → Prop} {YP : World → Heap → Prop} {d : DefRec} {K : Params → PySem.W.Frag} (S : Spec) (T : Tab)
    (hn : l.most = some n) (hn2 : n ≤ sizeLine) (hdf : d.params.defaults = []) (hdn : d.name = "law") (hr : Room (3 * k) callerA) (hY : ∀ (w : World) (h : Heap), YP w h → (K w.params).In h)
    (hTab : ∀ (w : World) (h : Heap), YP w h → ∀ p ∈ S.lams, h.get? p.2.2 = some (PySem.W.tabObj #[])) (hc : ∀ P : Params, compile (K P) S = some T) (hm : "law" ∈ S.fns.map (·.1))
    (hp : ∀ ns : List Int, ns.length ≤ n → (∀ z ∈ ns, Builtin.Int.intBits z ≤ 1048576) → ∀ s, (s = Cell.frz (ns.map D.int) ∨ s = Cell.lst (ns.map D.int)) → ∃ c, callD T k "law" [.ref 0] [s] = .ok (.bl true) c) :
    PySem.W.WalkO q loose XP YP l.row.toRowW d [] (fun f vs => PySem.call f vs) := by
  letI : Tables := ⟨S.tabs⟩
  refine Att.attach_callB hn hdf fun w s₀ s₁ mg mb fa o' pm' cd' doc' a vs ns GG Y ho hd hcd hmg hobj hints hlen hbits hgens => ?_
  have KX := hY w _ Y
  have G := GG.T.g
  have hc := hc w.params
  have hr2 : restIn (K w.params) S = true := by
    unfold compile at hc
    split at hc
    · assumption
    · cases hc
  have hr2' := hr2
  unfold restIn at hr2'
  simp only [Bool.and_eq_true, List.all_eq_true] at hr2'
  obtain ⟨⟨⟨⟨⟨k1, k2⟩, _⟩, _⟩, _⟩, _⟩ := hr2'
  unfold lawIn at k1
  split at k1
  case h_2 => cases k1
  rename_i d' hd'
  have hargs : d'.args.map (·.arg) = [("script" : Str)] := beq_iff_eq.mp k1
  obtain ⟨kV, doc, pm, ct, oc, an, od, osl, o⟩ := dfIn_some hd'
  have hfa : d'.fa = fa := by
    have := PySem.W.mg_of KX G o.ns
    rw [← show d.name = Str.ofString "law" from hdn, hmg] at this
    cases this
    rfl
  have hbind : ∀ (s : Shared) (u : Value), BindsTo s (PySem.W.fnOf d'.name d'.qual ⟨[], d'.args, none, [], [], none, []⟩ d'.body d'.scope .none kV doc pm an d'.cdv ct) ⟨[u], []⟩ ([("script" : Str)].zip [u]) := fun s u => by
    have := bind_all (name := d'.name) (qual := d'.qual) (body := d'.body) (scope := d'.scope) (kV := kV) (doc := doc) (pm := pm) (cdv := d'.cdv) (ct := ct) (an := an) (us := [u]) o.nd (by rw [hargs]; rfl)
    rw [hargs] at this
    exact BindsTo.of_eq this
  refine call_top (cs := S.lams.map (·.2)) (CX := L2.CX l.prog w) KX G GG.T.b GG.T.builtins GG.T.nolimit hgens (fun p hp' => ?_) (fun p hp' => ?_) (fun p hp' => ?_) GG.T.bmain hobj hints (Nat.le_trans hlen hn2) (fun base H KB GB hB hH hS env => ?_) fun H e s' hcx => ?_
  · obtain ⟨q, hq, rfl⟩ := List.mem_map.mp hp'
    exact hTab w _ Y q hq
  · obtain ⟨q, hq, rfl⟩ := List.mem_map.mp hp'
    exact Option.isNone_iff_eq_none.mp (k2 q hq).2
  · obtain ⟨q, hq, rfl⟩ := List.mem_map.mp hp'
    exact PySem.W.codeHd_of_K KX (k2 q hq).1
  · obtain ⟨d2, kV2, doc2, pm2, ct2, oc2, an2, od2, osl2, e1, o2', F⟩ := fns_ok (P := l.prog) (w := w) KB GB hc rfl (fun p hp' => hB p.2 (List.mem_map.mpr ⟨p, hp', rfl⟩)) k "law" hm
    rw [hd'] at e1
    cases e1
    have lk1 := o.lk
    rw [o2'.lk] at lk1
    cases lk1
    rw [← hfa]
    refine F.go callerA [] s₁ H ⟨[.ref a], []⟩ [.ref a] [.ref a] _ _ hr (fun _ => rfl) env (by rw [hargs]; exact hbind s₁ (.ref a)) (.cons rfl .nil) ?_
    have rints : ∀ (ι : List (Addr × Bool)) (H : Hp) (ns : List Int), Reps (K w.params) ι H (ns.map D.int) (ns.map V.int) := fun ι H ns => by
      induction ns with
      | nil => rfl
      | cons z ns ih => exact ⟨_, _, rfl, rfl, ih⟩
    have htab : LamX.Tabs Tables.T H := fun p hp' => by
      obtain ⟨q, hq, rfl⟩ := List.mem_map.mp hp'
      exact LamX.TabS.nil (hH q.2 (List.mem_map.mpr ⟨q, hq, rfl⟩))
    have fin : ∀ (s : Cell) (b : Bool), (s = Cell.frz (ns.map D.int) ∨ s = Cell.lst (ns.map D.int)) → CellRep (K w.params) [(a, b)] H a s → ((b = true → Mu s) ∧ (b = false → ¬ Mu s)) →
        spOf (K w.params) mg (callD T k) "law" [.ref a] H (fun v _ => v = .bl true) fun _ _ _ => False := fun s b hs hcell hmu => by
      obtain ⟨c, hc2⟩ := hp ns hlen hbits s hs
      refine ⟨[(a, b)], [s], [.ref 0], ⟨rfl, fun n m x h1 h2 => ?_, fun n x b' u h1 h2 => ?_, htab⟩, ⟨.ref a, [], rfl, ⟨a, rfl, b, rfl⟩, rfl⟩, ?_⟩
      · have := (List.getElem?_eq_some_iff.mp h1).1
        have := (List.getElem?_eq_some_iff.mp h2).1
        simp at *
        omega
      · have hz := (List.getElem?_eq_some_iff.mp h1).1
        have : n = 0 := by simpa using hz
        subst this
        cases h1
        cases h2
        exact ⟨hcell, hmu⟩
      · rw [hc2]
        intro ι' H' e1 h1 v rv
        exact rv
    rcases hS with (hS | ⟨ob, hS⟩) | hS
    · exact fin (.lst (ns.map D.int)) true (.inr rfl) ⟨_, hS, rints _ _ _⟩ ⟨fun _ => mu_lst _, nofun⟩
    · exact fin (.frz (ns.map D.int)) false (.inl rfl) ⟨_, .inl ⟨ob, hS⟩, rints _ _ _⟩ ⟨nofun, fun _ z => z _ rfl⟩
    · exact fin (.frz (ns.map D.int)) false (.inl rfl) ⟨_, .inr hS, rints _ _ _⟩ ⟨nofun, fun _ z => z _ rfl⟩
  · obtain ⟨_, _, _, _, _, _, _, _, _, _, _, _, z⟩ := hcx
    exact z
end
end G
end

section
set_option linter.all false
set_option autoImplicit false
set_option maxRecDepth 20000
/-! GW: what an evaluation is wanted to end with. -/
namespace G
open PySem (Str Operator CmpOp)

abbrev QD := D → Cells → Prop
abbrev QX := String → Cells → Prop
def wR {α : Type} (r : R α) (Q : α → Cells → Prop) (E : QX) : Prop := match r with
  | .ok a c => Q a c
  | .ex x c => E x c
  | .no => False
structure SK where
  nx : Lo → Cells → Prop
  rt : QD
  bk : Lo → Cells → Prop
  ct : Lo → Cells → Prop
  ex : QX
def wS (r : SR) (K : SK) : Prop := match r with
  | .nx ρ c => K.nx ρ c
  | .rt d c => K.rt d c
  | .bk ρ c => K.bk ρ c
  | .ct ρ c => K.ct ρ c
  | .ex x _ c => K.ex x c
  | .no => False
def pick (o : Option Bool) (A B : Prop) : Prop := match o with
  | some true => A
  | some false => B
  | none => False
theorem pick_some (b : Bool) (A B : Prop) : pick (some b) A B = if b = true then A else B := by cases b <;> rfl
theorem pick_t (A B : Prop) : pick (some true) A B = A := rfl
theorem pick_f (A B : Prop) : pick (some false) A B = B := rfl
theorem wR_imp {α : Type} {r : R α} {Q Q' : α → Cells → Prop} {E E' : QX} (h : wR r Q E) (k : ∀ a c, Q a c → Q' a c) (k2 : ∀ x c, E x c → E' x c) : wR r Q' E' := by
  cases r with
  | ok a c => exact k a c h
  | ex x c => exact k2 x c h
  | no => exact h
theorem wR_q {α : Type} {r : R α} {Q Q' : α → Cells → Prop} {E : QX} (h : wR r Q E) (k : ∀ a c, Q a c → Q' a c) : wR r Q' E := wR_imp h k fun _ _ h => h
theorem wR_bind {α β : Type} (r : R α) (f : α → Cells → R β) (Q : β → Cells → Prop) (E : QX) : wR (r.bind f) Q E = wR r (fun a c => wR (f a c) Q E) E := by cases r <;> rfl
theorem wR_ok {α : Type} (a : α) (c : Cells) (Q : α → Cells → Prop) (E : QX) : wR (.ok a c) Q E = Q a c := rfl
theorem wR_ex {α : Type} (x : String) (c : Cells) (Q : α → Cells → Prop) (E : QX) : wR (.ex x c) Q E = E x c := rfl
theorem wR_alloc (x : Cell) (c : Cells) (Q : QD) (E : QX) : wR (alloc x c) Q E = Q (.ref c.length) (c ++ [x]) := rfl
theorem wR_if {α : Type} {p : Prop} [Decidable p] (a : R α) (Q : α → Cells → Prop) (E : QX) : wR (if p then a else .no) Q E = (p ∧ wR a Q E) := by
  by_cases h : p
  · rw [if_pos h]; simp [h]
  · rw [if_neg h]; simp [h, wR]
theorem wS_ofE (r : R D) (ρ : Lo) (f : D → Cells → SR) (K : SK) : wS (ofE r ρ f) K = wR r (fun d c => wS (f d c) K) K.ex := by cases r <;> rfl
theorem wS_nx (ρ : Lo) (c : Cells) (K : SK) : wS (.nx ρ c) K = K.nx ρ c := rfl
theorem wS_rt (d : D) (c : Cells) (K : SK) : wS (.rt d c) K = K.rt d c := rfl
theorem wS_imp {r : SR} {K K' : SK} (h : wS r K) (h1 : ∀ ρ c, K.nx ρ c → K'.nx ρ c) (h2 : ∀ d c, K.rt d c → K'.rt d c) (h3 : ∀ ρ c, K.bk ρ c → K'.bk ρ c) (h4 : ∀ ρ c, K.ct ρ c → K'.ct ρ c) (h5 : ∀ x c, K.ex x c → K'.ex x c) : wS r K' := by
  cases r with
  | nx ρ c => exact h1 _ _ h
  | rt d c => exact h2 _ _ h
  | bk ρ c => exact h3 _ _ h
  | ct ρ c => exact h4 _ _ h
  | ex x ρ c => exact h5 _ _ h
  | no => exact h
/-! ### expressions -/
section
variable (Γ : Ctx) (ρ : Lo) (c : Cells) (Q : QD) (E : QX)
theorem e_k (d : D) : wR (dE Γ (.k d) ρ c) Q E = Q d c := by rw [dE]; rfl
def wO (o : Option (Option D)) (Q : D → Prop) : Prop := match o with
  | some (some d) => Q d
  | _ => False
theorem wO_some (d : D) (Q : D → Prop) : wO (some (some d)) Q = Q d := rfl
theorem e_v (i : Nat) : wR (dE Γ (.v i) ρ c) Q E = wO ρ[i]? fun d => Q d c := by
  rw [dE]
  cases ρ[i]? with
  | none => rfl
  | some o => cases o <;> rfl
theorem e_bin (o : Operator) (a b : IE) : wR (dE Γ (.bin o a b) ρ c) Q E = wR (dE Γ a ρ c) (fun x c1 => wR (dE Γ b ρ c1) (fun y c2 => wR (opBin o x y c2) Q E) E) E := by
  rw [dE, wR_bind]; simp only [wR_bind]
theorem e_cmp (o : CmpOp) (a b : IE) : wR (dE Γ (.cmp o a b) ρ c) Q E = wR (dE Γ a ρ c) (fun x c1 => wR (dE Γ b ρ c1) (fun y c2 => wR (opCmp o x y c2) Q E) E) E := by
  rw [dE, wR_bind]; simp only [wR_bind]
theorem e_ix (a b : IE) : wR (dE Γ (.ix a b) ρ c) Q E = wR (dE Γ a ρ c) (fun x c1 => wR (dE Γ b ρ c1) (fun y c2 => wR (opIx x y c2) Q E) E) E := by
  rw [dE, wR_bind]; simp only [wR_bind]
def wI (x : D) (Q : Int → Prop) : Prop := match x with
  | .int i => Q i
  | _ => False
theorem wI_int (i : Int) (Q : Int → Prop) : wI (.int i) Q = Q i := rfl
theorem e_neg (a : IE) : wR (dE Γ (.neg a) ρ c) Q E = wR (dE Γ a ρ c) (fun x c1 => wI x fun i => Q (.int (-i)) c1) E := by
  rw [dE, wR_bind]; congr 1; funext x c1; cases x <;> rfl
theorem e_and (a b : IE) : wR (dE Γ (.and a b) ρ c) Q E = wR (dE Γ a ρ c) (fun x c1 => pick (truth c1 x) (wR (dE Γ b ρ c1) Q E) (Q x c1)) E := by
  rw [dE, wR_bind]; congr 1; funext x c1; cases truth c1 x with | none => rfl | some t => cases t <;> rfl
theorem e_or (a b : IE) : wR (dE Γ (.or a b) ρ c) Q E = wR (dE Γ a ρ c) (fun x c1 => pick (truth c1 x) (Q x c1) (wR (dE Γ b ρ c1) Q E)) E := by
  rw [dE, wR_bind]; congr 1; funext x c1; cases truth c1 x with | none => rfl | some t => cases t <;> rfl
def wB (o : Option Bool) (Q : Bool → Prop) : Prop := match o with
  | some b => Q b
  | none => False
theorem wB_some (b : Bool) (Q : Bool → Prop) : wB (some b) Q = Q b := rfl
theorem e_not (a : IE) : wR (dE Γ (.not a) ρ c) Q E = wR (dE Γ a ρ c) (fun x c1 => wB (truth c1 x) fun b => Q (.bl (!b)) c1) E := by
  rw [dE, wR_bind]; congr 1; funext x c1; cases truth c1 x <;> rfl
theorem e_ite (t a b : IE) : wR (dE Γ (.ite t a b) ρ c) Q E = wR (dE Γ t ρ c) (fun x c1 => pick (truth c1 x) (wR (dE Γ a ρ c1) Q E) (wR (dE Γ b ρ c1) Q E)) E := by
  rw [dE, wR_bind]; congr 1; funext x c1; cases truth c1 x with | none => rfl | some t => cases t <;> rfl
def wT (x : D) (A B : Prop) : Prop := match x with
  | .bl true => A
  | .bl false => B
  | _ => False
theorem wT_bl (b : Bool) (A B : Prop) : wT (.bl b) A B = if b = true then A else B := by cases b <;> rfl
theorem e_chain (o1 o2 : CmpOp) (a b e : IE) : wR (dE Γ (.chain o1 o2 a b e) ρ c) Q E = wR (dE Γ a ρ c) (fun x c1 => wR (dE Γ b ρ c1) (fun y c2 => wR (opCmp o1 x y c2) (fun t c3 => wT t (wR (dE Γ e ρ c3) (fun z c4 => wR (opCmp o2 y z c4) Q E) E) (Q (.bl false) c3)) E) E) E := by
  rw [dE, wR_bind]; congr 1; funext x c1; rw [wR_bind]; congr 1; funext y c2; rw [wR_bind]; congr 1; funext t c3
  cases t with
  | bl t => cases t with
    | true => rw [wR_bind]; rfl
    | false => rfl
  | _ => rfl
theorem es_nil (Q : List D → Cells → Prop) : wR (dEs Γ [] ρ c) Q E = Q [] c := by rw [dEs]; rfl
theorem es_cons (e : IE) (es : List IE) (Q : List D → Cells → Prop) : wR (dEs Γ (e :: es) ρ c) Q E = wR (dE Γ e ρ c) (fun x c1 => wR (dEs Γ es ρ c1) (fun xs c2 => Q (x :: xs) c2) E) E := by
  rw [dEs, wR_bind]; simp only [wR_bind, wR_ok]
theorem e_tup (es : List IE) : wR (dE Γ (.tup es) ρ c) Q E = wR (dEs Γ es ρ c) (fun xs c1 => xs.length ≤ lim ∧ Q (.tup xs) c1) E := by
  rw [dE, wR_bind]; congr 1; funext xs c1; rw [wR_if]; rfl
theorem e_lst (es : List IE) : wR (dE Γ (.lst es) ρ c) Q E = wR (dEs Γ es ρ c) (fun xs c1 => xs.length ≤ lim ∧ Q (.ref c1.length) (c1 ++ [.lst xs])) E := by
  rw [dE, wR_bind]; congr 1; funext xs c1; rw [wR_if]; rfl
theorem e_call (f : String) (es : List IE) : wR (dE Γ (.call f es) ρ c) Q E = wR (dEs Γ es ρ c) (fun xs c1 => wR (Γ.call f xs c1) Q E) E := by
  rw [dE, wR_bind]
theorem e_blt (b : Blt) (es : List IE) : wR (dE Γ (.blt b es) ρ c) Q E = wR (dEs Γ es ρ c) (fun xs c1 => wR (opBlt b xs c1) Q E) E := by
  rw [dE, wR_bind]
def wTy (o : Option String) (Q : String → Prop) : Prop := match o with
  | some t => Q t
  | none => False
theorem wTy_some (t : String) (Q : String → Prop) : wTy (some t) Q = Q t := rfl
theorem e_isi (e : IE) (ts : List String) : wR (dE Γ (.isi e ts) ρ c) Q E = wR (dE Γ e ρ c) (fun x c1 => wTy (tyOf c1 x) fun t => Q (.bl (isTy t ts)) c1) E := by
  rw [dE, wR_bind]; congr 1; funext x c1; cases tyOf c1 x <;> rfl
theorem e_meth (m : Me) (o : IE) (es : List IE) : wR (dE Γ (.meth m o es) ρ c) Q E = wR (dE Γ o ρ c) (fun x c1 => tyOf c1 x = some (meT m) ∧ wR (dEs Γ es ρ c1) (fun xs c2 => wR (opMeth m x xs c2) Q E) E) E := by
  rw [dE, wR_bind]; congr 1; funext x c1; rw [wR_if, wR_bind]
theorem o_no (Q : Option Int → Cells → Prop) : wR (dO Γ .no ρ c) Q E = Q none c := by rw [dO]; rfl
theorem o_some (e : IE) (h : e ≠ .no) (Q : Option Int → Cells → Prop) : wR (dO Γ e ρ c) Q E = wR (dE Γ e ρ c) (fun x c1 => wI x fun i => Q (some i) c1) E := by
  have : dO Γ e ρ c = (dE Γ e ρ c).bind fun x c1 => match x with | .int i => .ok (some i) c1 | _ => .no := by
    cases e <;> first | exact absurd rfl h | (rw [dO] <;> first | rfl | nofun)
  rw [this, wR_bind]; congr 1; funext x c1; cases x <;> rfl
theorem e_sl (a lo hi : IE) : wR (dE Γ (.sl a lo hi) ρ c) Q E = wR (dE Γ a ρ c) (fun x c1 => wR (dO Γ lo ρ c1) (fun l c2 => wR (dO Γ hi ρ c2) (fun h c3 => wR (opSl x l h c3) Q E) E) E) E := by
  rw [dE, wR_bind]; simp only [wR_bind]
/-- a call is held by a def that tells how it ended -/
def wL (t : Option Thk) (ex : List String) (Q : QD) (r : R D) : Prop := match t with
  | some t => wR r (fun _ c1 => Q t.d c1) (fun x c1 => x ∈ ex ∧ wO ((t.hs.lookup x).map some) fun d => Q d c1)
  | none => False
theorem wL_some (t : Thk) (ex : List String) (Q : QD) (r : R D) : wL (some t) ex Q r = wR r (fun _ c1 => Q t.d c1) (fun x c1 => x ∈ ex ∧ wO ((t.hs.lookup x).map some) fun d => Q d c1) := rfl
theorem e_lam (f : String) (e : IE) : wR (dE Γ (.lam f e) ρ c) Q E = wL (Γ.thks.lookup f) Γ.excs Q (dE Γ e ρ c) := by
  rw [dE]
  cases Γ.thks.lookup f with
  | none => rfl
  | some t =>
    cases dE Γ e ρ c with
    | ok d c1 => rfl
    | no => rfl
    | ex x c1 =>
      dsimp only [wL, wR]
      by_cases h : x ∈ Γ.excs
      · rw [if_pos h]
        cases t.hs.lookup x with
        | none => simp [wO]
        | some d => simp [wO, h]
      · rw [if_neg h]
        simp [h]
/-! ### statements -/
variable (K : SK)
def wA (o : Option Lo) (Q : Lo → Prop) : Prop := match o with
  | some ρ => Q ρ
  | none => False
theorem wA_some (ρ : Lo) (Q : Lo → Prop) : wA (some ρ) Q = Q ρ := rfl
theorem s_set (t : Tg) (e : IE) : wS (dS Γ (.set t e) ρ c) K = wR (dE Γ e ρ c) (fun x c1 => wA (asg c1 t x ρ) fun ρ' => K.nx ρ' c1) K.ex := by
  rw [dS, wS_ofE]; congr 1; funext x c1; cases asg c1 t x ρ <;> rfl
theorem s_expr (e : IE) : wS (dS Γ (.expr e) ρ c) K = wR (dE Γ e ρ c) (fun _ c1 => K.nx ρ c1) K.ex := by rw [dS, wS_ofE]; rfl
theorem s_ret (e : IE) : wS (dS Γ (.ret e) ρ c) K = wR (dE Γ e ρ c) (fun x c1 => K.rt x c1) K.ex := by rw [dS, wS_ofE]; rfl
theorem s_retN : wS (dS Γ .retN ρ c) K = K.rt .non c := by rw [dS]; rfl
theorem s_brk : wS (dS Γ .brk ρ c) K = K.bk ρ c := by rw [dS]; rfl
theorem s_cnt : wS (dS Γ .cnt ρ c) K = K.ct ρ c := by rw [dS]; rfl
theorem s_pass : wS (dS Γ .pass ρ c) K = K.nx ρ c := by rw [dS]; rfl
theorem s_raise (x : String) : wS (dS Γ (.raise x) ρ c) K = K.ex x c := by rw [dS]; rfl
theorem s_ife (t : IE) (a b : List IS) : wS (dS Γ (.ife t a b) ρ c) K = wR (dE Γ t ρ c) (fun x c1 => pick (truth c1 x) (wS (dSs Γ a ρ c1) K) (wS (dSs Γ b ρ c1) K)) K.ex := by
  rw [dS, wS_ofE]; congr 1; funext x c1; cases truth c1 x with | none => rfl | some t => cases t <;> rfl
theorem ss_nil : wS (dSs Γ [] ρ c) K = K.nx ρ c := by rw [dSs]; rfl
theorem ss_cons (s : IS) (r : List IS) : wS (dSs Γ (s :: r) ρ c) K = wS (dS Γ s ρ c) { K with nx := fun ρ' c' => wS (dSs Γ r ρ' c') K } := by
  rw [dSs]; cases dS Γ s ρ c <;> rfl
def wX (c : Cells) (x : D) (Q : Nat → List D → Prop) : Prop := match x with
  | .ref n => (match c[n]? with
    | some (.lst xs) => Q n xs
    | _ => False)
  | _ => False
theorem wX_ref {c : Cells} {n : Nat} {xs : List D} (h : c[n]? = some (.lst xs)) (Q : Nat → List D → Prop) : wX c (.ref n) Q = Q n xs := by unfold wX; dsimp only; rw [h]
def wN (o : Option Nat) (Q : Nat → Prop) : Prop := match o with
  | some n => Q n
  | none => False
theorem wN_some (n : Nat) (Q : Nat → Prop) : wN (some n) Q = Q n := rfl
theorem s_setIx (o i e : IE) : wS (dS Γ (.setIx o i e) ρ c) K = wR (dE Γ e ρ c) (fun z c1 => wR (dE Γ o ρ c1) (fun x c2 => wR (dE Γ i ρ c2) (fun y c3 => wI y fun k => wX c3 x fun n xs => wN (ixN xs.length k) fun j => K.nx ρ (c3.set n (.lst (xs.set j z)))) K.ex) K.ex) K.ex := by
  rw [dS, wS_ofE]; congr 1; funext z c1; rw [wS_ofE]; congr 1; funext x c2; rw [wS_ofE]; congr 1; funext y c3
  cases y with
  | int k =>
    cases x with
    | ref n =>
      dsimp only [wI, wX]
      cases h : c3[n]? with
      | none => rfl
      | some u =>
        cases u with
        | lst xs =>
          dsimp only
          cases ixN xs.length k <;> rfl
        | _ => rfl
    | _ => rfl
  | _ => cases x <;> rfl
def wZ (o : Option (Option D)) (Q : Int → Prop) : Prop := match o with
  | some (some (.int i)) => Q i
  | _ => False
theorem wZ_int (i : Int) (Q : Int → Prop) : wZ (some (some (.int i))) Q = Q i := rfl
theorem s_augA (i : Nat) (e : IE) : wS (dS Γ (.aug .Add i e) ρ c) K = wZ ρ[i]? fun x => wR (dE Γ e ρ c) (fun y c1 => wI y fun z => K.nx (ρ.set i (some (.int (x + z)))) c1) K.ex := by
  rw [dS]
  cases ρ[i]? with
  | none => rfl
  | some o =>
    cases o with
    | none => rfl
    | some d =>
      cases d with
      | int x =>
        show wS (ofE _ _ _) K = _
        rw [wS_ofE]
        show _ = wR (dE Γ e ρ c) _ _
        congr 1; funext y c1; cases y <;> rfl
      | _ => rfl
theorem s_augS (i : Nat) (e : IE) : wS (dS Γ (.aug .Sub i e) ρ c) K = wZ ρ[i]? fun x => wR (dE Γ e ρ c) (fun y c1 => wI y fun z => K.nx (ρ.set i (some (.int (x - z)))) c1) K.ex := by
  rw [dS]
  cases ρ[i]? with
  | none => rfl
  | some o =>
    cases o with
    | none => rfl
    | some d =>
      cases d with
      | int x =>
        show wS (ofE _ _ _) K = _
        rw [wS_ofE]
        show _ = wR (dE Γ e ρ c) _ _
        congr 1; funext y c1; cases y <;> rfl
      | _ => rfl
/-- except clauses -/
theorem s_try (b : List IS) (hs : List (String × D)) : wS (dS Γ (.try b hs) ρ c) K = wS (dSs Γ b ρ c) { K with ex := fun x c1 => x ∈ Γ.excs ∧ ((∃ d, hs.lookup x = some d ∧ K.rt d c1) ∨ (hs.lookup x = none ∧ K.ex x c1)) } := by
  rw [dS]
  cases dSs Γ b ρ c with
  | ex x ρ' c' =>
    dsimp only [wS]
    by_cases h : x ∈ Γ.excs
    · rw [if_pos h]
      cases hs.lookup x with
      | none => simp [h]
      | some d => simp [h]
    · rw [if_neg h]; simp [h]
  | _ => rfl
end
/-! ### calls -/
def wC (T : Tab) (k : Nat) (f : String) (xs : List D) (c : Cells) (Q : QD) (E : QX) : Prop := wR (callD T k f xs c) Q E
theorem call_body {T : Tab} {k : Nat} {f : String} {fn : Fn} {xs : List D} {c : Cells} {Q : QD} {E : QX} (h : T.fns.lookup f = some fn) (hn : xs.length = fn.np)
    (hb : wS (dSs ⟨callD T k, T.thks, T.excs⟩ fn.body (start fn xs) c) ⟨fun _ c' => wR (gcR c (.ok .non c')) Q E, fun d c' => wR (gcR c (.ok d c')) Q E, fun _ _ => False, fun _ _ => False, fun x c' => wR (gcR c (.ex x c')) Q E⟩) : wR (callD T (k + 1) f xs c) Q E := by
  unfold callD
  rw [h]
  dsimp only
  rw [if_pos hn]
  cases q : dSs ⟨callD T k, T.thks, T.excs⟩ fn.body (start fn xs) c with
  | nx ρ c' => rw [q] at hb; exact hb
  | rt d c' => rw [q] at hb; exact hb
  | ex x ρ c' => rw [q] at hb; exact hb
  | bk ρ c' => rw [q] at hb; exact hb.elim
  | ct ρ c' => rw [q] at hb; exact hb.elim
  | no => rw [q] at hb; exact hb.elim
/-! ### what is dropped at a call's end -/
mutual
/-- no numbers of cells -/
def D.nr : D → Bool
  | .tup xs => D.nrs xs
  | .ref _ => false
  | _ => true
def D.nrs : List D → Bool
  | [] => true
  | x :: xs => D.nr x && D.nrs xs
end
mutual
theorem D.nr_bel (n : Nat) : ∀ d : D, d.nr = true → d.bel n = true
  | .non, _ => by simp [D.bel]
  | .bl _, _ => by simp [D.bel]
  | .int _, _ => by simp [D.bel]
  | .str _, _ => by simp [D.bel]
  | .tup xs, h => by simpa [D.bel] using D.nrs_bels n xs (by simpa [D.nr] using h)
  | .ref _, h => by simp [D.nr] at h
theorem D.nrs_bels (n : Nat) : ∀ xs : List D, D.nrs xs = true → D.bels n xs = true
  | [], _ => by simp [D.bels]
  | x :: xs, h => by
    have h' : D.nr x = true ∧ D.nrs xs = true := by simpa [D.nrs] using h
    simp [D.bels, D.nr_bel n x h'.1, D.nrs_bels n xs h'.2]
end
theorem D.nrs_all : ∀ {xs : List D}, (∀ x ∈ xs, x.nr = true) → D.nrs xs = true
  | [], _ => by simp [D.nrs]
  | x :: xs, h => by simp [D.nrs, h x List.mem_cons_self, D.nrs_all fun y hy => h y (List.mem_cons_of_mem _ hy)]
theorem D.nrs_map {α : Type} {f : α → D} (h : ∀ x, (f x).nr = true) : ∀ xs : List α, D.nrs (xs.map f) = true
  | [] => by simp [D.nrs]
  | x :: xs => by simp [D.nrs, h x, D.nrs_map h xs]
theorem D.bels_app (n : Nat) : ∀ xs ys : List D, D.bels n (xs ++ ys) = (D.bels n xs && D.bels n ys)
  | [], ys => by simp [D.bels]
  | x :: xs, ys => by simp [D.bels, D.bels_app n xs ys, Bool.and_assoc]
theorem kept_app (c g : Cells) : kept c (c ++ g) = true := by
  unfold kept
  simp only [Bool.and_eq_true, decide_eq_true_eq, List.all_eq_true, List.mem_range, Bool.or_eq_true]
  refine ⟨by simp, fun i hi => .inl (List.getElem?_append_left hi)⟩
theorem kept_refl (c : Cells) : kept c c = true := by have := kept_app c []; rwa [List.append_nil] at this
theorem kept_set (c g : Cells) (n : Nat) (x : Cell) (h : x.bel c.length = true) : kept c (c.set n x ++ g) = true := by
  unfold kept
  simp only [Bool.and_eq_true, decide_eq_true_eq, List.all_eq_true, List.mem_range, Bool.or_eq_true]
  refine ⟨by simp, fun i hi => ?_⟩
  rw [List.getElem?_append_left (by simpa using hi)]
  by_cases e : i = n
  · subst e
    rw [List.getElem?_set_self hi]
    exact .inr h
  · rw [List.getElem?_set_ne (Ne.symm e)]
    exact .inl rfl
section
variable (c g : Cells) (Q : QD) (E : QX)
theorem gc_id (d : D) : wR (gcR c (.ok d c)) Q E = Q d c := by
  unfold gcR
  dsimp only
  rw [if_pos (kept_refl c), List.take_length]
  split
  · rfl
  · split
    · rename_i m hb
      have : c[m]? = none := by
        rw [List.getElem?_eq_none_iff]
        simpa [D.bel] using hb
      rw [this]; rfl
    · rfl
theorem gc_app (d : D) (h : d.nr = true) : wR (gcR c (.ok d (c ++ g))) Q E = Q d c := by
  unfold gcR
  dsimp only
  rw [if_pos (kept_app c g), if_pos (D.nr_bel _ d h), List.take_left']
  · rfl
  · rfl
theorem gc_ex (x : String) : wR (gcR c (.ex x (c ++ g))) Q E = E x c := by
  unfold gcR
  dsimp only
  rw [if_pos (kept_app c g), List.take_left']
  · rfl
  · rfl
theorem gc_ex0 (x : String) : wR (gcR c (.ex x c)) Q E = E x c := by have := gc_ex c [] Q E x; rwa [List.append_nil] at this
theorem gc_set (d : D) (n : Nat) (x : Cell) (hx : x.bel c.length = true) (h : d.nr = true) : wR (gcR c (.ok d (c.set n x ++ g))) Q E = Q d (c.set n x) := by
  unfold gcR
  dsimp only
  rw [if_pos (kept_set c g n x hx), if_pos (D.nr_bel _ d h), List.take_left']
  · rfl
  · simp
theorem gc_set0 (d : D) (n : Nat) (x : Cell) (hx : x.bel c.length = true) (h : d.nr = true) : wR (gcR c (.ok d (c.set n x))) Q E = Q d (c.set n x) := by have := gc_set c [] Q E d n x hx h; rwa [List.append_nil] at this
theorem gc_setB (d : D) (n : Nat) (x : Cell) (hx : x.bel c.length = true) (h : d.bel c.length = true) : wR (gcR c (.ok d (c.set n x))) Q E = Q d (c.set n x) := by
  unfold gcR
  dsimp only
  rw [if_pos (by have := kept_set c [] n x hx; rwa [List.append_nil] at this), if_pos h, List.take_of_length_le (by simp)]
  rfl
/-- a new list -/
theorem gc_new (m : Nat) (xs : List D) (hm : g[m]? = some (.lst xs)) (h : D.nrs xs = true) : wR (gcR c (.ok (.ref (c.length + m)) (c ++ g))) Q E = Q (.ref c.length) (c ++ [.lst xs]) := by
  unfold gcR
  dsimp only
  rw [if_pos (kept_app c g), if_neg (by simp [D.bel])]
  have : (c ++ g)[c.length + m]? = some (.lst xs) := by rw [List.getElem?_append_right (by omega)]; simpa using hm
  rw [this]
  dsimp only
  rw [if_pos (D.nrs_bels _ _ h), List.take_left']
  · rfl
  · rfl
/-- a new list, the box changed -/
theorem gc_setnew (n : Nat) (x : Cell) (hx : x.bel c.length = true) (m : Nat) (xs : List D) (hm : g[m]? = some (.lst xs)) (h : D.nrs xs = true) : wR (gcR c (.ok (.ref (c.length + m)) (c.set n x ++ g))) Q E = Q (.ref c.length) (c.set n x ++ [.lst xs]) := by
  unfold gcR
  dsimp only
  rw [if_pos (kept_set c g n x hx), if_neg (by simp [D.bel])]
  have : (c.set n x ++ g)[c.length + m]? = some (.lst xs) := by rw [List.getElem?_append_right (by simp)]; simpa using hm
  rw [this]
  dsimp only
  rw [if_pos (D.nrs_bels _ _ h), List.take_left']
  · rfl
  · simp
end
/-- the end as law_end asks it -/
theorem ends_of {r : R D} (h : wR r (fun d _ => d = .bl true) (fun _ _ => False)) : ∃ c, r = .ok (.bl true) c := by
  cases r with
  | ok d c => cases (show d = .bl true from h); exact ⟨c, rfl⟩
  | ex x c => exact h.elim
  | no => exact h.elim
/-! ### loops -/
theorem s_whl {Γ : Ctx} {t : IE} {b : List IS} {K : SK} (I : Nat → Lo → Cells → Prop) {m : Nat} {ρ : Lo} {c : Cells} (h0 : I m ρ c)
    (step : ∀ m ρ c, I m ρ c → wR (dE Γ t ρ c) (fun x c1 => pick (truth c1 x) (wS (dSs Γ b ρ c1) ⟨fun ρ' c' => ∃ m', m' < m ∧ I m' ρ' c', K.rt, K.nx, fun ρ' c' => ∃ m', m' < m ∧ I m' ρ' c', K.ex⟩) (K.nx ρ c1)) K.ex) : wS (dS Γ (.whl t b) ρ c) K := by
  rw [dS]
  induction m using Nat.strongRecOn generalizing ρ c with
  | ind m ih =>
  have st := step m ρ c h0
  rw [whlGo_eq]
  cases q : dE Γ t ρ c with
  | no => rw [q] at st; exact st.elim
  | ex x c1 => rw [q] at st; exact st
  | ok d c1 =>
    rw [q] at st
    dsimp only [wR] at st ⊢
    cases qt : truth c1 d with
    | none => rw [qt] at st; exact st.elim
    | some bb =>
      rw [qt] at st
      cases bb with
      | false => exact st
      | true =>
        dsimp only [pick] at st ⊢
        cases qs : dSs Γ b ρ c1 with
        | nx ρ' c' => rw [qs] at st; obtain ⟨m', hm, hI⟩ := st; exact ih m' hm hI
        | ct ρ' c' => rw [qs] at st; obtain ⟨m', hm, hI⟩ := st; exact ih m' hm hI
        | bk ρ' c' => rw [qs] at st; exact st
        | rt d' c' => rw [qs] at st; exact st
        | ex x ρ' c' => rw [qs] at st; exact st
        | no => rw [qs] at st; exact st.elim
/-- what is walked -/
def itemsD (c : Cells) (x : D) : Option (List D × List Nat) := match x with
  | .tup xs => some (xs, [])
  | .ref n => (match c[n]? with
    | some (.lst xs) => some (xs, [n])
    | some (.frz xs) => some (xs, [n])
    | _ => none)
  | _ => none
def wP (o : Option (List D × List Nat)) (Q : List D × List Nat → Prop) : Prop := match o with
  | some p => Q p
  | none => False
theorem wP_some (p : List D × List Nat) (Q : List D × List Nat → Prop) : wP (some p) Q = Q p := rfl
theorem i_rng {Γ : Ctx} {es : List IE} {ρ : Lo} {c : Cells} {Q : List D × List Nat → Cells → Prop} {E : QX} : wR (dI Γ (.rng es) ρ c) Q E = wR (dEs Γ es ρ c) (fun xs c1 => wP ((rngOf xs).map fun ys => (ys, [])) fun p => Q p c1) E := by
  rw [dI, wR_bind]; congr 1; funext xs c1; cases rngOf xs <;> rfl
theorem i_val {Γ : Ctx} {e : IE} {ρ : Lo} {c : Cells} {Q : List D × List Nat → Cells → Prop} {E : QX} (h1 : ∀ es, e ≠ .rng es) (h2 : ∀ a, e ≠ .enum a) (h3 : ∀ x y, e ≠ .zip x y) :
    wR (dI Γ e ρ c) Q E = wR (dE Γ e ρ c) (fun x c1 => wP (itemsD c1 x) fun p => Q p c1) E := by
  have : dI Γ e ρ c = (dE Γ e ρ c).bind fun x c1 => match x with
    | .tup xs => .ok (xs, []) c1
    | .ref n => (match c1[n]? with
      | some (.lst xs) => .ok (xs, [n]) c1
      | some (.frz xs) => .ok (xs, [n]) c1
      | _ => .no)
    | _ => .no := by
    cases e <;> first | exact absurd rfl (h1 _) | exact absurd rfl (h2 _) | exact absurd rfl (h3 _ _) | (rw [dI] <;> first | rfl | nofun)
  rw [this, wR_bind]; congr 1; funext x c1
  cases x with
  | tup xs => rfl
  | ref n =>
    unfold itemsD
    dsimp only
    cases c1[n]? with
    | none => rfl
    | some u => cases u <;> rfl
  | _ => rfl
/-- a for: I of the items still to come -/
theorem go_for {F : D → Lo → Cells → SR} {ws : List Nat} {K : SK} (I : List D → Lo → Cells → Prop) {c0 : Cells} : ∀ {xs : List D} {ρ : Lo} {c : Cells}, I xs ρ c → same ws c0 c = true →
    (∀ x xs ρ c, I (x :: xs) ρ c → same ws c0 c = true → wS (F x ρ c) ⟨fun ρ' c' => I xs ρ' c' ∧ same ws c0 c' = true, K.rt, K.nx, fun ρ' c' => I xs ρ' c' ∧ same ws c0 c' = true, K.ex⟩) →
    (∀ ρ c, I [] ρ c → same ws c0 c = true → K.nx ρ c) → wS (forGo F ws xs ρ c) K
  | [], ρ, c, h, hs, st, en => en ρ c h hs
  | x :: xs, ρ, c, h, hs, st, en => by
    have h1 := st x xs ρ c h hs
    unfold forGo
    have sm : ∀ {c'}, same ws c0 c' = true → same ws c c' = true := fun {c'} z => by
      simp only [same, List.all_eq_true, decide_eq_true_eq] at *
      exact fun n hn => (hs n hn).symm.trans (z n hn)
    cases q : F x ρ c with
    | nx ρ' c' =>
      rw [q] at h1
      obtain ⟨a, b⟩ := h1
      dsimp only
      rw [if_pos (sm b)]
      exact go_for I a b st en
    | ct ρ' c' =>
      rw [q] at h1
      obtain ⟨a, b⟩ := h1
      dsimp only
      rw [if_pos (sm b)]
      exact go_for I a b st en
    | bk ρ' c' => rw [q] at h1; exact h1
    | rt d c' => rw [q] at h1; exact h1
    | ex e ρ' c' => rw [q] at h1; exact h1
    | no => rw [q] at h1; exact h1.elim
noncomputable def foS (Γ : Ctx) (t : Tg) (b : List IS) : D → Lo → Cells → SR := fun x ρ c => match asg c t x ρ with
  | none => .no
  | some ρ' => dSs Γ b ρ' c
theorem s_for (Γ : Ctx) (t : Tg) (it : IE) (b : List IS) (ρ : Lo) (c : Cells) (K : SK) : wS (dS Γ (.for t it b) ρ c) K = wR (dI Γ it ρ c) (fun p c1 => wS (forGo (foS Γ t b) p.2 p.1 ρ c1) K) K.ex := by
  rw [dS]
  cases dI Γ it ρ c <;> rfl
theorem s_foS (Γ : Ctx) (t : Tg) (b : List IS) (x : D) (ρ : Lo) (c : Cells) (K : SK) : wS (foS Γ t b x ρ c) K = wA (asg c t x ρ) fun ρ' => wS (dSs Γ b ρ' c) K := by
  unfold foS
  cases asg c t x ρ <;> rfl
/-! ### comprehensions -/
theorem ts_nil (Γ : Ctx) (ρ : Lo) (c : Cells) (Q : Bool → Cells → Prop) (E : QX) : wR (dT Γ [] ρ c) Q E = Q true c := by rw [dT]; rfl
theorem ts_cons (Γ : Ctx) (e : IE) (es : List IE) (ρ : Lo) (c : Cells) (Q : Bool → Cells → Prop) (E : QX) : wR (dT Γ (e :: es) ρ c) Q E = wR (dE Γ e ρ c) (fun x c1 => pick (truth c1 x) (wR (dT Γ es ρ c1) Q E) (Q false c1)) E := by
  rw [dT, wR_bind]; congr 1; funext x c1; cases truth c1 x with | none => rfl | some t => cases t <;> rfl
def lcB (Γ : Ctx) (t : Tg) (own : List Nat) (ifs : List IE) (e : IE) (ρ : Lo) : D → Cells → R (Option D) := fun x c2 => match asg c2 t x (wipe ρ own) with
  | none => .no
  | some ρ' => (match dT Γ ifs ρ' c2 with
    | .ok true c3 => (match dE Γ e ρ' c3 with
      | .ok y c4 => .ok (some y) c4
      | _ => .no)
    | .ok false c3 => .ok none c3
    | _ => .no)
theorem e_lc (Γ : Ctx) (own : List Nat) (t : Tg) (it : IE) (ifs : List IE) (e : IE) (ρ : Lo) (c : Cells) (Q : QD) (E : QX) : wR (dE Γ (.lc own t it ifs e) ρ c) Q E =
    wR (dI Γ it ρ c) (fun p c1 => wR (lcGo (lcB Γ t own ifs e ρ) p.2 p.1 c1) (fun ys c2 => ys.length ≤ lim ∧ Q (.ref c2.length) (c2 ++ [.lst ys])) E) E := by
  rw [dE, wR_bind]; congr 1; funext p c1; rw [wR_bind]; congr 1; funext ys c2; rw [wR_if]; rfl
theorem w_lcB (Γ : Ctx) (t : Tg) (own : List Nat) (ifs : List IE) (e : IE) (ρ : Lo) (x : D) (c : Cells) (Q : Option D → Cells → Prop) (E : QX) : wR (lcB Γ t own ifs e ρ x c) Q E =
    wA (asg c t x (wipe ρ own)) fun ρ' => wR (dT Γ ifs ρ' c) (fun b c3 => if b = true then wR (dE Γ e ρ' c3) (fun y c4 => Q (some y) c4) (fun _ _ => False) else Q none c3) (fun _ _ => False) := by
  unfold lcB
  cases asg c t x (wipe ρ own) with
  | none => rfl
  | some ρ' =>
    dsimp only [wA]
    cases dT Γ ifs ρ' c with
    | ok b c3 =>
      cases b with
      | true =>
        dsimp only [wR]
        rw [if_pos rfl]
        cases dE Γ e ρ' c3 <;> rfl
      | false => simp [wR]
    | ex => rfl
    | no => rfl
/-- the turns of a comprehension, by what is kept of the items: J of the state -/
theorem go_lc {F : D → Cells → R (Option D)} {ws : List Nat} {c0 : Cells} {E : QX} (J : Cells → Prop) (g : D → Option D) : ∀ {xs : List D} {c : Cells} {Q : List D → Cells → Prop}, J c → same ws c0 c = true →
    (∀ x ∈ xs, ∀ c, J c → same ws c0 c = true → wR (F x c) (fun o c' => o = g x ∧ J c' ∧ same ws c0 c' = true) E) → (∀ c', J c' → same ws c0 c' = true → Q (xs.filterMap g) c') → wR (lcGo F ws xs c) Q E
  | [], c, Q, h, hs, st, en => en c h hs
  | x :: xs, c, Q, h, hs, st, en => by
    have h1 := st x List.mem_cons_self c h hs
    unfold lcGo
    have sm : ∀ {c'}, same ws c0 c' = true → same ws c c' = true := fun {c'} z => by
      simp only [same, List.all_eq_true, decide_eq_true_eq] at *
      exact fun n hn => (hs n hn).symm.trans (z n hn)
    rw [wR_bind]
    cases q : F x c with
    | ok o c1 =>
      rw [q] at h1
      obtain ⟨rfl, a, b⟩ := h1
      dsimp only [wR]
      rw [if_pos (sm b)]
      show wR (R.bind _ _) Q E
      rw [wR_bind]
      refine go_lc J g a b (fun y hy => st y (List.mem_cons_of_mem _ hy)) fun c' j s => ?_
      rw [List.filterMap_cons] at en
      cases qg : g x with
      | none => rw [qg] at en; exact en c' j s
      | some y => rw [qg] at en; exact en c' j s
    | ex e c1 => rw [q] at h1; exact h1
    | no => rw [q] at h1; exact h1.elim
end G
end

section
set_option linter.all false
set_option autoImplicit false
set_option maxRecDepth 20000
/-! GLib: operations as rewriting. -/
namespace G
open PySem (Str Operator CmpOp PyData)

/-! ### equal data -/
mutual
def D.fl : D → Bool
  | .str x => PyData.strOk x
  | .tup xs => D.fls xs
  | .ref _ => false
  | _ => true
def D.fls : List D → Bool
  | [] => true
  | x :: xs => D.fl x && D.fls xs
end
mutual
def D.dep : D → Nat
  | .tup xs => D.deps xs + 1
  | _ => 0
def D.deps : List D → Nat
  | [] => 0
  | x :: xs => max (D.dep x) (D.deps xs)
end
mutual
def eqD : D → D → Bool
  | .non, .non => true
  | .bl a, .bl b => a == b
  | .bl a, .int j => (if a then 1 else 0) == j
  | .int i, .bl b => i == (if b then 1 else 0)
  | .int i, .int j => i == j
  | .str x, .str y => x == y
  | .tup xs, .tup ys => eqDs xs ys
  | _, _ => false
def eqDs : List D → List D → Bool
  | [], [] => true
  | x :: xs, y :: ys => eqD x y && eqDs xs ys
  | _, _ => false
end
mutual
def toP : D → PyData
  | .non => .none
  | .bl b => .bool b
  | .int i => .int i
  | .str x => .str x
  | .tup xs => .tuple (toPs xs)
  | .ref _ => .none
def toPs : List D → List PyData
  | [] => []
  | x :: xs => toP x :: toPs xs
end
mutual
theorem pyD_fl (f : Nat → Option PyData) : ∀ x : D, x.fl = true → pyD f x = some (toP x)
  | .non, _ => by simp [pyD, toP]
  | .bl b, _ => by simp [pyD, toP]
  | .int b, _ => by simp [pyD, toP]
  | .str b, _ => by simp [pyD, toP]
  | .tup xs, h => by
    have h' : D.fls xs = true := by simpa [D.fl] using h
    simp [pyD, toP, pyDs_fl f xs h']
  | .ref _, h => by simp [D.fl] at h
theorem pyDs_fl (f : Nat → Option PyData) : ∀ xs : List D, D.fls xs = true → pyDs f xs = some (toPs xs)
  | [], _ => by simp [pyDs, toPs]
  | x :: xs, h => by
    have h' : D.fl x = true ∧ D.fls xs = true := by simpa [D.fls] using h
    simp [pyDs, toPs, pyD_fl f x h'.1, pyDs_fl f xs h'.2]
end
mutual
theorem lay_fl : ∀ x : D, x.fl = true → (toP x).canLay0 = true ∧ (toP x).depth = x.dep
  | .non, _ => by simp [toP, PyData.canLay0, PyData.depth, D.dep]
  | .bl b, _ => by simp [toP, PyData.canLay0, PyData.depth, D.dep]
  | .int b, _ => by simp [toP, PyData.canLay0, PyData.depth, D.dep]
  | .str b, h => by
    have h' : PyData.strOk b = true := by simpa [D.fl] using h
    simp [toP, PyData.canLay0, PyData.depth, D.dep, h']
  | .tup xs, h => by
    have h' : D.fls xs = true := by simpa [D.fl] using h
    obtain ⟨a, b⟩ := lays_fl xs h'
    simp [toP, PyData.canLay0, PyData.depth, D.dep, a, b]
  | .ref _, h => by simp [D.fl] at h
theorem lays_fl : ∀ xs : List D, D.fls xs = true → PyData.canLayAll0 (toPs xs) = true ∧ PyData.depthAll (toPs xs) = D.deps xs
  | [], _ => by simp [toPs, PyData.canLayAll0, PyData.depthAll, D.deps]
  | x :: xs, h => by
    have h' : D.fl x = true ∧ D.fls xs = true := by simpa [D.fls] using h
    obtain ⟨a, b⟩ := lay_fl x h'.1
    obtain ⟨a2, b2⟩ := lays_fl xs h'.2
    simp [toPs, PyData.canLayAll0, PyData.depthAll, D.deps, a, b, a2, b2]
end
mutual
theorem eqv_toP : ∀ x y : D, x.fl = true → y.fl = true → PyData.eqv (toP x) (toP y) = eqD x y
  | .non, y, _, h => by cases y <;> simp_all [toP, PyData.eqv, eqD, D.fl]
  | .bl b, y, _, h => by cases y <;> simp_all [toP, PyData.eqv, eqD, D.fl]
  | .int b, y, _, h => by cases y <;> simp_all [toP, PyData.eqv, eqD, D.fl]
  | .str b, y, _, h => by cases y <;> simp_all [toP, PyData.eqv, eqD, D.fl]
  | .tup xs, y, h1, h => by
    cases y with
    | tup ys => simp [toP, PyData.eqv, eqD, eqvs_toP xs ys (by simpa [D.fl] using h1) (by simpa [D.fl] using h)]
    | ref _ => simp [D.fl] at h
    | _ => simp [toP, PyData.eqv, eqD]
  | .ref _, _, h, _ => by simp [D.fl] at h
theorem eqvs_toP : ∀ xs ys : List D, D.fls xs = true → D.fls ys = true → PyData.eqvAll (toPs xs) (toPs ys) = eqDs xs ys
  | [], [], _, _ => by simp [toPs, PyData.eqvAll, eqDs]
  | [], _ :: _, _, _ => by simp [toPs, PyData.eqvAll, eqDs]
  | _ :: _, [], _, _ => by simp [toPs, PyData.eqvAll, eqDs]
  | x :: xs, y :: ys, h1, h2 => by
    have h1' : D.fl x = true ∧ D.fls xs = true := by simpa [D.fls] using h1
    have h2' : D.fl y = true ∧ D.fls ys = true := by simpa [D.fls] using h2
    simp [toPs, PyData.eqvAll, eqDs, eqv_toP x y h1'.1 h2'.1, eqvs_toP xs ys h1'.2 h2'.2]
end
/-- flat enough: no lists within -/
def D.ok (x : D) : Bool := x.fl && decide (x.dep ≤ 64)
theorem py_ok' {c : Cells} {x : D} (h : x.ok = true) : py c x = some (toP x) := by
  unfold D.ok at h
  simp only [Bool.and_eq_true, decide_eq_true_eq] at h
  obtain ⟨a, b⟩ := lay_fl x h.1
  unfold py
  rw [pyD_fl _ x h.1]
  dsimp only
  rw [if_pos]
  unfold PySem.SeqAt.shaped
  simp [a, b, h.2]
theorem eqv_ok {c : Cells} {x y : D} (h1 : x.ok = true) (h2 : y.ok = true) : eqv c x y = some (eqD x y) := by
  unfold eqv
  rw [py_ok' h1, py_ok' h2]
  dsimp only
  rw [eqv_toP x y (by unfold D.ok at h1; simp at h1; exact h1.1) (by unfold D.ok at h2; simp at h2; exact h2.1)]
mutual
def D.it : D → Bool
  | .bl _ => false
  | .tup xs => D.its xs
  | .ref _ => false
  | _ => true
def D.its : List D → Bool
  | [] => true
  | x :: xs => D.it x && D.its xs
end
mutual
theorem eqD_it : ∀ x y : D, x.it = true → y.it = true → (eqD x y = true ↔ x = y)
  | .non, y, _, h => by cases y <;> simp_all [eqD, D.it]
  | .bl b, y, h1, h => by simp [D.it] at h1
  | .int b, y, _, h => by cases y <;> simp_all [eqD, D.it]
  | .str b, y, _, h => by cases y <;> simp_all [eqD, D.it]
  | .tup xs, y, h1, h => by
    cases y with
    | tup ys => simp [eqD, eqDs_it xs ys (by simpa [D.it] using h1) (by simpa [D.it] using h)]
    | _ => simp_all [eqD, D.it]
  | .ref _, _, h, _ => by simp [D.it] at h
theorem eqDs_it : ∀ xs ys : List D, D.its xs = true → D.its ys = true → (eqDs xs ys = true ↔ xs = ys)
  | [], [], _, _ => by simp [eqDs]
  | [], _ :: _, _, _ => by simp [eqDs]
  | _ :: _, [], _, _ => by simp [eqDs]
  | x :: xs, y :: ys, h1, h2 => by
    have h1' : D.it x = true ∧ D.its xs = true := by simpa [D.its] using h1
    have h2' : D.it y = true ∧ D.its ys = true := by simpa [D.its] using h2
    simp [eqDs, eqD_it x y h1'.1 h2'.1, eqDs_it xs ys h1'.2 h2'.2]
end
mutual
theorem eqD_self : ∀ x : D, x.fl = true → eqD x x = true
  | .non, _ => by simp [eqD]
  | .bl _, _ => by simp [eqD]
  | .int _, _ => by simp [eqD]
  | .str _, _ => by simp [eqD]
  | .tup xs, h => by simp [eqD, eqDs_self xs (by simpa [D.fl] using h)]
  | .ref _, h => by simp [D.fl] at h
theorem eqDs_self : ∀ x : List D, D.fls x = true → eqDs x x = true
  | [], _ => by simp [eqDs]
  | x :: xs, h => by
    have h' : D.fl x = true ∧ D.fls xs = true := by simpa [D.fls] using h
    simp [eqDs, eqD_self x h'.1, eqDs_self xs h'.2]
end

/-! ### small ints -/
class Sm (n : outParam Nat) (x : Int) : Prop where
  lt : x.natAbs < 2 ^ n
theorem Sm.mono {n m : Nat} {x : Int} (h : Sm n x) (k : n ≤ m) : Sm m x := ⟨Nat.lt_of_lt_of_le h.lt (Nat.pow_le_pow_right (by decide) k)⟩
instance (n m : Nat) (a b : Int) [h : Sm n a] [k : Sm m b] : Sm (n + m) (a * b) := ⟨by
  rw [Int.natAbs_mul, Nat.pow_add]
  exact Nat.mul_lt_mul'' h.lt k.lt⟩
theorem two_pow_max {n m a b : Nat} (h : a < 2 ^ n) (k : b < 2 ^ m) : a + b < 2 ^ (max n m + 1) := by
  have h1 : 2 ^ n ≤ 2 ^ max n m := Nat.pow_le_pow_right (by decide) (Nat.le_max_left _ _)
  have h2 : 2 ^ m ≤ 2 ^ max n m := Nat.pow_le_pow_right (by decide) (Nat.le_max_right _ _)
  rw [Nat.pow_succ]
  omega
instance (n m : Nat) (a b : Int) [h : Sm n a] [k : Sm m b] : Sm (max n m + 1) (a + b) := ⟨Nat.lt_of_le_of_lt (Int.natAbs_add_le a b) (two_pow_max h.lt k.lt)⟩
instance (n : Nat) (a : Int) [h : Sm n a] : Sm n (-a) := ⟨by rw [Int.natAbs_neg]; exact h.lt⟩
instance (n m : Nat) (a b : Int) [h : Sm n a] [k : Sm m b] : Sm (max n m + 1) (a - b) := ⟨by
  have := Int.natAbs_sub_le a b
  exact Nat.lt_of_le_of_lt this (two_pow_max h.lt k.lt)⟩
instance (k : Nat) : Sm (k.log2 + 1) (no_index (OfNat.ofNat k) : Int) := ⟨by
  show (Int.ofNat k).natAbs < _
  exact Nat.lt_log2_self⟩
theorem sm_of {n : Nat} {x : Int} (h : x.natAbs < 2 ^ n) : Sm n x := ⟨h⟩
theorem mulOk_sm {n m : Nat} {x y : Int} [h : Sm n x] [k : Sm m y] (hl : n + m ≤ 999999) : mulOk x y = true := by
  unfold mulOk
  have key : ∀ {n a : Nat}, a < 2 ^ n → a.log2 ≤ n := fun {n a} h => by
    by_cases z : a = 0
    · subst z; simp
    · exact Nat.le_of_lt ((Nat.log2_lt z).mpr h)
  have h1 := key h.lt
  have h2 := key k.lt
  simp only [decide_eq_true_eq]
  omega
instance (n : Nat) (x d : Int) [h : Sm n x] : Sm n (x / d) := ⟨Nat.lt_of_le_of_lt (Int.natAbs_ediv_le_natAbs x d) h.lt⟩
end G
end

section
set_option linter.all false
set_option autoImplicit false
set_option maxRecDepth 20000
/-! GOp: operations as rewriting, second part. -/
namespace G
open PySem (Str Operator CmpOp PyData)
section
variable (c : Cells) (Q : QD) (E : QX)
theorem b_add (i j : Int) : wR (opBin .Add (.int i) (.int j) c) Q E = Q (.int (i + j)) c := rfl
theorem b_sub (i j : Int) : wR (opBin .Sub (.int i) (.int j) c) Q E = Q (.int (i - j)) c := rfl
theorem b_subB (i j : Bool) : wR (opBin .Sub (.bl i) (.bl j) c) Q E = Q (.int (b2i i - b2i j)) c := rfl
theorem b_addB (i : Int) (j : Bool) : wR (opBin .Add (.int i) (.bl j) c) Q E = Q (.int (i + b2i j)) c := rfl
theorem b_mul (i j : Int) : wR (opBin .Mult (.int i) (.int j) c) Q E = (mulOk i j = true ∧ Q (.int (i * j)) c) := by
  show wR (if mulOk i j = true then _ else _) Q E = _
  rw [wR_if]; rfl
theorem b_div (i j : Int) : wR (opBin .FloorDiv (.int i) (.int j) c) Q E = ((0 < j ∧ j.natAbs.log2 < 9000) ∧ Q (.int (i / j)) c) := by
  show wR (if _ then _ else _) Q E = _
  rw [wR_if]; rfl
theorem b_mod (i j : Int) : wR (opBin .Mod (.int i) (.int j) c) Q E = (0 < j ∧ Q (.int (i % j)) c) := by
  show wR (if _ then _ else _) Q E = _
  rw [wR_if]; rfl
theorem b_pow (i j : Int) : wR (opBin .Pow (.int i) (.int j) c) Q E = ((0 ≤ j ∧ j ≤ 1000000 ∧ i.natAbs < 2 ^ 64) ∧ Q (.int (i ^ j.toNat)) c) := by
  show wR (if _ then _ else _) Q E = _
  rw [wR_if]; rfl
theorem b_addT (a b : List D) : wR (opBin .Add (.tup a) (.tup b) c) Q E = (a.length + b.length ≤ lim ∧ Q (.tup (a ++ b)) c) := by
  show wR (if _ then _ else _) Q E = _
  rw [wR_if]; rfl
theorem b_mulT (a : List D) (k : Int) : wR (opBin .Mult (.tup a) (.int k) c) Q E = ((a ≠ [] ∧ 2 ≤ k ∧ k ≤ 1000 ∧ a.length ≤ 1000) ∧ Q (.tup (List.replicate k.toNat a).flatten) c) := by
  show wR (if _ then _ else _) Q E = _
  rw [wR_if]; rfl
theorem wR_obl (o : Option Bool) : wR (obl o c) Q E = wB o fun b => Q (.bl b) c := by cases o <;> rfl
theorem c_eq (x y : D) : wR (opCmp .Eq x y c) Q E = wB (eqv c x y) fun b => Q (.bl b) c := wR_obl _ _ _ _
theorem c_ne (x y : D) : wR (opCmp .NotEq x y c) Q E = wB (eqv c x y) fun b => Q (.bl (!b)) c := by
  show wR (obl _ c) Q E = _
  rw [wR_obl]; cases eqv c x y <;> rfl
theorem c_in (x y : D) : wR (opCmp .In x y c) Q E = wB (inD c x y) fun b => Q (.bl b) c := wR_obl _ _ _ _
theorem c_notIn (x y : D) : wR (opCmp .NotIn x y c) Q E = wB (inD c x y) fun b => Q (.bl (!b)) c := by
  show wR (obl _ c) Q E = _
  rw [wR_obl]; cases inD c x y <;> rfl
theorem c_lt (i j : Int) : wR (opCmp .Lt (.int i) (.int j) c) Q E = Q (.bl (decide (i < j))) c := rfl
theorem c_le (i j : Int) : wR (opCmp .LtE (.int i) (.int j) c) Q E = Q (.bl (decide (i ≤ j))) c := rfl
theorem c_gt (i j : Int) : wR (opCmp .Gt (.int i) (.int j) c) Q E = Q (.bl (decide (j < i))) c := rfl
theorem c_ge (i j : Int) : wR (opCmp .GtE (.int i) (.int j) c) Q E = Q (.bl (decide (j ≤ i))) c := rfl
theorem c_isB (a b : Bool) : wR (opCmp .Is (.bl a) (.bl b) c) Q E = Q (.bl (decide (a = b))) c := rfl
theorem c_isNotB (a b : Bool) : wR (opCmp .IsNot (.bl a) (.bl b) c) Q E = Q (.bl (!decide (a = b))) c := rfl
theorem c_isN (x : D) : wR (opCmp .Is x .non c) Q E = Q (.bl (decide (x = .non))) c := by cases x <;> rfl
theorem c_isNotN (x : D) : wR (opCmp .IsNot x .non c) Q E = Q (.bl (!decide (x = .non))) c := by cases x <;> rfl
theorem x_tup (xs : List D) (i : Int) : wR (opIx (.tup xs) (.int i) c) Q E = wO ((atI xs i).map some) fun d => Q d c := by
  show wR (match atI xs i with | some d => R.ok d c | none => .no) Q E = _
  cases atI xs i <;> rfl
theorem x_ref (n : Nat) (i : Int) : wR (opIx (.ref n) (.int i) c) Q E = wO (((getL c n).bind fun xs => atI xs i).map some) fun d => Q d c := by
  show wR (match getL c n with | some xs => (match atI xs i with | some d => R.ok d c | none => .no) | none => .no) Q E = _
  cases getL c n with
  | none => rfl
  | some xs =>
    dsimp only [Option.bind]
    cases atI xs i <;> rfl
theorem sl_tup (xs : List D) (lo hi : Option Int) : wR (opSl (.tup xs) lo hi c) Q E = Q (.tup (cut xs lo hi)) c := rfl
theorem t_abs (i : Int) : wR (opBlt .abs [.int i] c) Q E = Q (.int (if i < 0 then -i else i)) c := rfl
theorem t_int (i : Int) : wR (opBlt .int [.int i] c) Q E = Q (.int i) c := rfl
theorem t_intB (b : Bool) : wR (opBlt .int [.bl b] c) Q E = Q (.int (b2i b)) c := rfl
theorem t_len (xs : List D) : wR (opBlt .len [.tup xs] c) Q E = Q (.int xs.length) c := rfl
theorem t_min (i j : Int) : wR (opBlt .min [.int i, .int j] c) Q E = Q (.int (if j < i then j else i)) c := rfl
theorem t_max (i j : Int) : wR (opBlt .max [.int i, .int j] c) Q E = Q (.int (if j > i then j else i)) c := rfl
theorem t_tupT (xs : List D) : wR (opBlt .tuple [.tup xs] c) Q E = Q (.tup xs) c := rfl
theorem t_lstT (xs : List D) : wR (opBlt .list [.tup xs] c) Q E = Q (.ref c.length) (c ++ [.lst xs]) := rfl
/-- the list just made -/
theorem last_cell (x : Cell) : (c ++ [x])[c.length]? = some x := List.getElem?_concat_length ..
def wBs (o : Option (List Bool)) (Q : List Bool → Prop) : Prop := match o with
  | some b => Q b
  | none => False
theorem wBs_some (b : List Bool) (Q : List Bool → Prop) : wBs (some b) Q = Q b := rfl
theorem t_allR (n : Nat) (xs : List D) (h : c[n]? = some (.lst xs)) : wR (opBlt .all [.ref n] c) Q E = wBs (bls xs) fun bs => Q (.bl (bs.all id)) c := by
  unfold opBlt; dsimp only; rw [h]; dsimp only
  cases bls xs <;> rfl
theorem t_anyR (n : Nat) (xs : List D) (h : c[n]? = some (.lst xs)) : wR (opBlt .any [.ref n] c) Q E = wBs (bls xs) fun bs => Q (.bl (bs.any id)) c := by
  unfold opBlt; dsimp only; rw [h]; dsimp only
  cases bls xs <;> rfl
theorem t_all (xs : List D) : wR (opBlt .all [.ref c.length] (c ++ [.lst xs])) Q E = wBs (bls xs) fun bs => Q (.bl (bs.all id)) (c ++ [.lst xs]) := t_allR _ _ _ _ _ (last_cell _ _)
theorem t_any (xs : List D) : wR (opBlt .any [.ref c.length] (c ++ [.lst xs])) Q E = wBs (bls xs) fun bs => Q (.bl (bs.any id)) (c ++ [.lst xs]) := t_anyR _ _ _ _ _ (last_cell _ _)
theorem t_lenR (n : Nat) (xs : List D) (h : c[n]? = some (.lst xs)) : wR (opBlt .len [.ref n] c) Q E = Q (.int xs.length) c := by
  unfold opBlt; dsimp only; rw [h]; rfl
theorem t_tupR (n : Nat) (xs : List D) (h : c[n]? = some (.lst xs)) : wR (opBlt .tuple [.ref n] c) Q E = Q (.tup xs) c := by
  unfold opBlt; dsimp only; rw [h]; rfl
theorem t_tup (xs : List D) : wR (opBlt .tuple [.ref c.length] (c ++ [.lst xs])) Q E = Q (.tup xs) (c ++ [.lst xs]) := t_tupR _ _ _ _ _ (last_cell _ _)
end
/-! ### small ends -/
theorem tr_bl (c : Cells) (b : Bool) : truth c (.bl b) = some b := rfl
theorem tr_int (c : Cells) (i : Int) : truth c (.int i) = some (i != 0) := rfl
theorem tr_tup (c : Cells) (xs : List D) : truth c (.tup xs) = some (!xs.isEmpty) := rfl
theorem tr_non (c : Cells) : truth c .non = some false := rfl
theorem ty_non (c : Cells) : tyOf c .non = some "NoneType" := rfl
theorem ty_bl (c : Cells) (b : Bool) : tyOf c (.bl b) = some "bool" := rfl
theorem ty_int (c : Cells) (b : Int) : tyOf c (.int b) = some "int" := rfl
theorem ty_str (c : Cells) (b : Str) : tyOf c (.str b) = some "str" := rfl
theorem ty_tup (c : Cells) (b : List D) : tyOf c (.tup b) = some "tuple" := rfl
theorem is_ii : isTy "int" ["int"] = true := by decide
theorem is_ib : isTy "int" ["bool"] = false := by decide
theorem is_bi : isTy "bool" ["int"] = true := by decide
theorem is_bb : isTy "bool" ["bool"] = true := by decide
theorem is_tt : isTy "tuple" ["tuple"] = true := by decide
theorem is_lt : isTy "list" ["tuple"] = false := by decide
theorem is_it : isTy "int" ["tuple"] = false := by decide
theorem is_nt : isTy "NoneType" ["tuple"] = false := by decide
theorem is_st : isTy "str" ["tuple"] = false := by decide
theorem is_ni : isTy "NoneType" ["int"] = false := by decide
theorem is_si : isTy "str" ["int"] = false := by decide
theorem is_ti : isTy "tuple" ["int"] = false := by decide
theorem is_li : isTy "list" ["int"] = false := by decide
theorem a2_0 (x y : D) : atI [x, y] 0 = some x := rfl
theorem a2_1 (x y : D) : atI [x, y] 1 = some y := rfl
theorem a3_0 (x y z : D) : atI [x, y, z] 0 = some x := rfl
theorem a3_1 (x y z : D) : atI [x, y, z] 1 = some y := rfl
theorem a3_2 (x y z : D) : atI [x, y, z] 2 = some z := rfl
theorem a4_0 (x y z w : D) : atI [x, y, z, w] 0 = some x := rfl
theorem a4_1 (x y z w : D) : atI [x, y, z, w] 1 = some y := rfl
theorem a4_2 (x y z w : D) : atI [x, y, z, w] 2 = some z := rfl
theorem a4_3 (x y z w : D) : atI [x, y, z, w] 3 = some w := rfl
theorem asg_v (c : Cells) (i : Nat) (d : D) (ρ : Lo) : asg c (.v i) d ρ = some (ρ.set i (some d)) := by rw [asg]
theorem asg_t (c : Cells) (ts : List Tg) (xs : List D) (ρ : Lo) : asg c (.tup ts) (.tup xs) ρ = asgs c ts xs ρ := by rw [asg]
theorem asgs_n (c : Cells) (ρ : Lo) : asgs c [] [] ρ = some ρ := by rw [asgs]
theorem asgs_c (c : Cells) (t : Tg) (ts : List Tg) (x : D) (xs : List D) (ρ : Lo) : asgs c (t :: ts) (x :: xs) ρ = (asg c t x ρ).bind fun ρ' => asgs c ts xs ρ' := by
  rw [asgs]; cases asg c t x ρ <;> rfl
theorem log2_sm {n : Nat} {x : Int} [h : Sm n x] (hl : n ≤ 8999) : (x.natAbs.log2 < 9000) = True := by
  have key : ∀ {n a : Nat}, a < 2 ^ n → a.log2 ≤ n := fun {n a} h => by
    by_cases z : a = 0
    · subst z; simp
    · exact Nat.le_of_lt ((Nat.log2_lt z).mpr h)
  have := key h.lt
  simp only [eq_iff_iff, iff_true]
  omega
theorem abs_eq (i : Int) : (if i < 0 then -i else i) = (i.natAbs : Int) := by omega
/-! ### walks of literal rows -/
section
variable (Γ : Ctx) (ρ : Lo) (c : Cells) (Q : List D × List Nat → Cells → Prop) (E : QX)
theorem i_v (i : Nat) : wR (dI Γ (.v i) ρ c) Q E = wR (dE Γ (.v i) ρ c) (fun x c1 => wP (itemsD c1 x) fun p => Q p c1) E := i_val nofun nofun nofun
theorem i_tup (es : List IE) : wR (dI Γ (.tup es) ρ c) Q E = wR (dE Γ (.tup es) ρ c) (fun x c1 => wP (itemsD c1 x) fun p => Q p c1) E := i_val nofun nofun nofun
theorem i_lst (es : List IE) : wR (dI Γ (.lst es) ρ c) Q E = wR (dE Γ (.lst es) ρ c) (fun x c1 => wP (itemsD c1 x) fun p => Q p c1) E := i_val nofun nofun nofun
theorem i_call (f : String) (es : List IE) : wR (dI Γ (.call f es) ρ c) Q E = wR (dE Γ (.call f es) ρ c) (fun x c1 => wP (itemsD c1 x) fun p => Q p c1) E := i_val nofun nofun nofun
theorem i_ix (a b : IE) : wR (dI Γ (.ix a b) ρ c) Q E = wR (dE Γ (.ix a b) ρ c) (fun x c1 => wP (itemsD c1 x) fun p => Q p c1) E := i_val nofun nofun nofun
theorem i_sl (a b d : IE) : wR (dI Γ (.sl a b d) ρ c) Q E = wR (dE Γ (.sl a b d) ρ c) (fun x c1 => wP (itemsD c1 x) fun p => Q p c1) E := i_val nofun nofun nofun
theorem it_tup (xs : List D) : itemsD c (.tup xs) = some (xs, []) := rfl
end
theorem same_nil' (c c' : Cells) : same [] c c' = true := rfl
theorem lc_nil (f : D → Cells → R (Option D)) (ws : List Nat) (c : Cells) (Q : List D → Cells → Prop) (E : QX) : wR (lcGo f ws [] c) Q E = Q [] c := rfl
def oc (o : Option D) (ys : List D) : List D := match o with
  | some y => y :: ys
  | none => ys
theorem oc_some (y : D) (ys : List D) : oc (some y) ys = y :: ys := rfl
theorem oc_none (ys : List D) : oc none ys = ys := rfl
theorem lc_cons (f : D → Cells → R (Option D)) (ws : List Nat) (x : D) (xs : List D) (c : Cells) (Q : List D → Cells → Prop) (E : QX) :
    wR (lcGo f ws (x :: xs) c) Q E = wR (f x c) (fun o c1 => same ws c c1 = true ∧ wR (lcGo f ws xs c1) (fun ys c2 => Q (oc o ys) c2) E) E := by
  rw [lcGo, wR_bind]; congr 1; funext o c1
  by_cases h : same ws c c1 = true
  · rw [if_pos h, wR_bind]; simp only [h, true_and]; congr 1; funext ys c2; cases o <;> rfl
  · rw [if_neg h]; simp [h, wR]
theorem fo_nil (F : D → Lo → Cells → SR) (ws : List Nat) (ρ : Lo) (c : Cells) (K : SK) : wS (forGo F ws [] ρ c) K = K.nx ρ c := rfl
theorem fo_cons (F : D → Lo → Cells → SR) (ws : List Nat) (x : D) (xs : List D) (ρ : Lo) (c : Cells) (K : SK) :
    wS (forGo F ws (x :: xs) ρ c) K = wS (F x ρ c) ⟨fun ρ' c' => same ws c c' = true ∧ wS (forGo F ws xs ρ' c') K, K.rt, K.nx, fun ρ' c' => same ws c c' = true ∧ wS (forGo F ws xs ρ' c') K, K.ex⟩ := by
  rw [forGo]
  cases F x ρ c with
  | nx ρ' c' => by_cases h : same ws c c' = true <;> simp [wS, h]
  | ct ρ' c' => by_cases h : same ws c c' = true <;> simp [wS, h]
  | _ => rfl
theorem eq_of {r : R D} {d : D} {c : Cells} (h : ∀ (Q : QD) (E : QX), Q d c → wR r Q E) : r = .ok d c := by
  have := h (fun d' c' => d' = d ∧ c' = c) (fun _ _ => False) ⟨rfl, rfl⟩
  cases r with
  | ok d' c' => obtain ⟨rfl, rfl⟩ := this; rfl
  | ex _ _ => exact this.elim
  | no => exact this.elim
theorem ex_of {r : R D} {x : String} {c : Cells} (h : ∀ (Q : QD) (E : QX), E x c → wR r Q E) : r = .ex x c := by
  have := h (fun _ _ => False) (fun d' c' => d' = x ∧ c' = c) ⟨rfl, rfl⟩
  cases r with
  | ex d' c' => obtain ⟨rfl, rfl⟩ := this; rfl
  | ok _ _ => exact this.elim
  | no => exact this.elim
section
variable (c : Cells)
theorem q_ii (i j : Int) : eqv c (.int i) (.int j) = some (i == j) := by rw [eqv_ok rfl rfl]; simp [eqD]
theorem q_bb (i j : Bool) : eqv c (.bl i) (.bl j) = some (i == j) := by rw [eqv_ok rfl rfl]; simp [eqD]
theorem q_2 (i j k l : Int) : eqv c (.tup [.int i, .int j]) (.tup [.int k, .int l]) = some (i == k && j == l) := by rw [eqv_ok rfl rfl]; simp [eqD, eqDs]
theorem q_3 (i j k l m n : Int) : eqv c (.tup [.int i, .int j, .int k]) (.tup [.int l, .int m, .int n]) = some (i == l && (j == m && k == n)) := by rw [eqv_ok rfl rfl]; simp [eqD, eqDs]
end
end G
end

section
set_option linter.all false
set_option autoImplicit false
set_option maxRecDepth 20000
/-! GRul: rules for literal slots, outermost first. -/
namespace G
open PySem (Str Operator CmpOp PyData)
section
variable (Γ : Ctx) (c : Cells) (Q : QD) (E : QX) (P : Lo → Prop)

theorem v_0 (d : D) (ρ : Lo) : wR (dE Γ (.v 0) (some d :: ρ) c) Q E = Q d c := by rw [dE]; rfl
theorem v_1 (a0 : Option D) (d : D) (ρ : Lo) : wR (dE Γ (.v 1) (a0 :: some d :: ρ) c) Q E = Q d c := by rw [dE]; rfl
theorem v_2 (a0 a1 : Option D) (d : D) (ρ : Lo) : wR (dE Γ (.v 2) (a0 :: a1 :: some d :: ρ) c) Q E = Q d c := by rw [dE]; rfl
theorem v_3 (a0 a1 a2 : Option D) (d : D) (ρ : Lo) : wR (dE Γ (.v 3) (a0 :: a1 :: a2 :: some d :: ρ) c) Q E = Q d c := by rw [dE]; rfl
theorem v_4 (a0 a1 a2 a3 : Option D) (d : D) (ρ : Lo) : wR (dE Γ (.v 4) (a0 :: a1 :: a2 :: a3 :: some d :: ρ) c) Q E = Q d c := by rw [dE]; rfl
theorem v_5 (a0 a1 a2 a3 a4 : Option D) (d : D) (ρ : Lo) : wR (dE Γ (.v 5) (a0 :: a1 :: a2 :: a3 :: a4 :: some d :: ρ) c) Q E = Q d c := by rw [dE]; rfl
theorem v_6 (a0 a1 a2 a3 a4 a5 : Option D) (d : D) (ρ : Lo) : wR (dE Γ (.v 6) (a0 :: a1 :: a2 :: a3 :: a4 :: a5 :: some d :: ρ) c) Q E = Q d c := by rw [dE]; rfl
theorem v_7 (a0 a1 a2 a3 a4 a5 a6 : Option D) (d : D) (ρ : Lo) : wR (dE Γ (.v 7) (a0 :: a1 :: a2 :: a3 :: a4 :: a5 :: a6 :: some d :: ρ) c) Q E = Q d c := by rw [dE]; rfl
theorem v_8 (a0 a1 a2 a3 a4 a5 a6 a7 : Option D) (d : D) (ρ : Lo) : wR (dE Γ (.v 8) (a0 :: a1 :: a2 :: a3 :: a4 :: a5 :: a6 :: a7 :: some d :: ρ) c) Q E = Q d c := by rw [dE]; rfl
theorem v_9 (a0 a1 a2 a3 a4 a5 a6 a7 a8 : Option D) (d : D) (ρ : Lo) : wR (dE Γ (.v 9) (a0 :: a1 :: a2 :: a3 :: a4 :: a5 :: a6 :: a7 :: a8 :: some d :: ρ) c) Q E = Q d c := by rw [dE]; rfl
theorem v_10 (a0 a1 a2 a3 a4 a5 a6 a7 a8 a9 : Option D) (d : D) (ρ : Lo) : wR (dE Γ (.v 10) (a0 :: a1 :: a2 :: a3 :: a4 :: a5 :: a6 :: a7 :: a8 :: a9 :: some d :: ρ) c) Q E = Q d c := by rw [dE]; rfl
theorem v_11 (a0 a1 a2 a3 a4 a5 a6 a7 a8 a9 a10 : Option D) (d : D) (ρ : Lo) : wR (dE Γ (.v 11) (a0 :: a1 :: a2 :: a3 :: a4 :: a5 :: a6 :: a7 :: a8 :: a9 :: a10 :: some d :: ρ) c) Q E = Q d c := by rw [dE]; rfl
theorem v_12 (a0 a1 a2 a3 a4 a5 a6 a7 a8 a9 a10 a11 : Option D) (d : D) (ρ : Lo) : wR (dE Γ (.v 12) (a0 :: a1 :: a2 :: a3 :: a4 :: a5 :: a6 :: a7 :: a8 :: a9 :: a10 :: a11 :: some d :: ρ) c) Q E = Q d c := by rw [dE]; rfl
theorem v_13 (a0 a1 a2 a3 a4 a5 a6 a7 a8 a9 a10 a11 a12 : Option D) (d : D) (ρ : Lo) : wR (dE Γ (.v 13) (a0 :: a1 :: a2 :: a3 :: a4 :: a5 :: a6 :: a7 :: a8 :: a9 :: a10 :: a11 :: a12 :: some d :: ρ) c) Q E = Q d c := by rw [dE]; rfl
theorem v_14 (a0 a1 a2 a3 a4 a5 a6 a7 a8 a9 a10 a11 a12 a13 : Option D) (d : D) (ρ : Lo) : wR (dE Γ (.v 14) (a0 :: a1 :: a2 :: a3 :: a4 :: a5 :: a6 :: a7 :: a8 :: a9 :: a10 :: a11 :: a12 :: a13 :: some d :: ρ) c) Q E = Q d c := by rw [dE]; rfl
theorem v_15 (a0 a1 a2 a3 a4 a5 a6 a7 a8 a9 a10 a11 a12 a13 a14 : Option D) (d : D) (ρ : Lo) : wR (dE Γ (.v 15) (a0 :: a1 :: a2 :: a3 :: a4 :: a5 :: a6 :: a7 :: a8 :: a9 :: a10 :: a11 :: a12 :: a13 :: a14 :: some d :: ρ) c) Q E = Q d c := by rw [dE]; rfl
theorem v_16 (a0 a1 a2 a3 a4 a5 a6 a7 a8 a9 a10 a11 a12 a13 a14 a15 : Option D) (d : D) (ρ : Lo) : wR (dE Γ (.v 16) (a0 :: a1 :: a2 :: a3 :: a4 :: a5 :: a6 :: a7 :: a8 :: a9 :: a10 :: a11 :: a12 :: a13 :: a14 :: a15 :: some d :: ρ) c) Q E = Q d c := by rw [dE]; rfl
theorem v_17 (a0 a1 a2 a3 a4 a5 a6 a7 a8 a9 a10 a11 a12 a13 a14 a15 a16 : Option D) (d : D) (ρ : Lo) : wR (dE Γ (.v 17) (a0 :: a1 :: a2 :: a3 :: a4 :: a5 :: a6 :: a7 :: a8 :: a9 :: a10 :: a11 :: a12 :: a13 :: a14 :: a15 :: a16 :: some d :: ρ) c) Q E = Q d c := by rw [dE]; rfl
theorem v_18 (a0 a1 a2 a3 a4 a5 a6 a7 a8 a9 a10 a11 a12 a13 a14 a15 a16 a17 : Option D) (d : D) (ρ : Lo) : wR (dE Γ (.v 18) (a0 :: a1 :: a2 :: a3 :: a4 :: a5 :: a6 :: a7 :: a8 :: a9 :: a10 :: a11 :: a12 :: a13 :: a14 :: a15 :: a16 :: a17 :: some d :: ρ) c) Q E = Q d c := by rw [dE]; rfl
theorem v_19 (a0 a1 a2 a3 a4 a5 a6 a7 a8 a9 a10 a11 a12 a13 a14 a15 a16 a17 a18 : Option D) (d : D) (ρ : Lo) : wR (dE Γ (.v 19) (a0 :: a1 :: a2 :: a3 :: a4 :: a5 :: a6 :: a7 :: a8 :: a9 :: a10 :: a11 :: a12 :: a13 :: a14 :: a15 :: a16 :: a17 :: a18 :: some d :: ρ) c) Q E = Q d c := by rw [dE]; rfl
theorem v_20 (a0 a1 a2 a3 a4 a5 a6 a7 a8 a9 a10 a11 a12 a13 a14 a15 a16 a17 a18 a19 : Option D) (d : D) (ρ : Lo) : wR (dE Γ (.v 20) (a0 :: a1 :: a2 :: a3 :: a4 :: a5 :: a6 :: a7 :: a8 :: a9 :: a10 :: a11 :: a12 :: a13 :: a14 :: a15 :: a16 :: a17 :: a18 :: a19 :: some d :: ρ) c) Q E = Q d c := by rw [dE]; rfl
theorem v_21 (a0 a1 a2 a3 a4 a5 a6 a7 a8 a9 a10 a11 a12 a13 a14 a15 a16 a17 a18 a19 a20 : Option D) (d : D) (ρ : Lo) : wR (dE Γ (.v 21) (a0 :: a1 :: a2 :: a3 :: a4 :: a5 :: a6 :: a7 :: a8 :: a9 :: a10 :: a11 :: a12 :: a13 :: a14 :: a15 :: a16 :: a17 :: a18 :: a19 :: a20 :: some d :: ρ) c) Q E = Q d c := by rw [dE]; rfl
theorem v_22 (a0 a1 a2 a3 a4 a5 a6 a7 a8 a9 a10 a11 a12 a13 a14 a15 a16 a17 a18 a19 a20 a21 : Option D) (d : D) (ρ : Lo) : wR (dE Γ (.v 22) (a0 :: a1 :: a2 :: a3 :: a4 :: a5 :: a6 :: a7 :: a8 :: a9 :: a10 :: a11 :: a12 :: a13 :: a14 :: a15 :: a16 :: a17 :: a18 :: a19 :: a20 :: a21 :: some d :: ρ) c) Q E = Q d c := by rw [dE]; rfl
theorem v_23 (a0 a1 a2 a3 a4 a5 a6 a7 a8 a9 a10 a11 a12 a13 a14 a15 a16 a17 a18 a19 a20 a21 a22 : Option D) (d : D) (ρ : Lo) : wR (dE Γ (.v 23) (a0 :: a1 :: a2 :: a3 :: a4 :: a5 :: a6 :: a7 :: a8 :: a9 :: a10 :: a11 :: a12 :: a13 :: a14 :: a15 :: a16 :: a17 :: a18 :: a19 :: a20 :: a21 :: a22 :: some d :: ρ) c) Q E = Q d c := by rw [dE]; rfl
theorem v_24 (a0 a1 a2 a3 a4 a5 a6 a7 a8 a9 a10 a11 a12 a13 a14 a15 a16 a17 a18 a19 a20 a21 a22 a23 : Option D) (d : D) (ρ : Lo) : wR (dE Γ (.v 24) (a0 :: a1 :: a2 :: a3 :: a4 :: a5 :: a6 :: a7 :: a8 :: a9 :: a10 :: a11 :: a12 :: a13 :: a14 :: a15 :: a16 :: a17 :: a18 :: a19 :: a20 :: a21 :: a22 :: a23 :: some d :: ρ) c) Q E = Q d c := by rw [dE]; rfl
theorem v_25 (a0 a1 a2 a3 a4 a5 a6 a7 a8 a9 a10 a11 a12 a13 a14 a15 a16 a17 a18 a19 a20 a21 a22 a23 a24 : Option D) (d : D) (ρ : Lo) : wR (dE Γ (.v 25) (a0 :: a1 :: a2 :: a3 :: a4 :: a5 :: a6 :: a7 :: a8 :: a9 :: a10 :: a11 :: a12 :: a13 :: a14 :: a15 :: a16 :: a17 :: a18 :: a19 :: a20 :: a21 :: a22 :: a23 :: a24 :: some d :: ρ) c) Q E = Q d c := by rw [dE]; rfl
theorem v_26 (a0 a1 a2 a3 a4 a5 a6 a7 a8 a9 a10 a11 a12 a13 a14 a15 a16 a17 a18 a19 a20 a21 a22 a23 a24 a25 : Option D) (d : D) (ρ : Lo) : wR (dE Γ (.v 26) (a0 :: a1 :: a2 :: a3 :: a4 :: a5 :: a6 :: a7 :: a8 :: a9 :: a10 :: a11 :: a12 :: a13 :: a14 :: a15 :: a16 :: a17 :: a18 :: a19 :: a20 :: a21 :: a22 :: a23 :: a24 :: a25 :: some d :: ρ) c) Q E = Q d c := by rw [dE]; rfl
theorem v_27 (a0 a1 a2 a3 a4 a5 a6 a7 a8 a9 a10 a11 a12 a13 a14 a15 a16 a17 a18 a19 a20 a21 a22 a23 a24 a25 a26 : Option D) (d : D) (ρ : Lo) : wR (dE Γ (.v 27) (a0 :: a1 :: a2 :: a3 :: a4 :: a5 :: a6 :: a7 :: a8 :: a9 :: a10 :: a11 :: a12 :: a13 :: a14 :: a15 :: a16 :: a17 :: a18 :: a19 :: a20 :: a21 :: a22 :: a23 :: a24 :: a25 :: a26 :: some d :: ρ) c) Q E = Q d c := by rw [dE]; rfl
theorem v_28 (a0 a1 a2 a3 a4 a5 a6 a7 a8 a9 a10 a11 a12 a13 a14 a15 a16 a17 a18 a19 a20 a21 a22 a23 a24 a25 a26 a27 : Option D) (d : D) (ρ : Lo) : wR (dE Γ (.v 28) (a0 :: a1 :: a2 :: a3 :: a4 :: a5 :: a6 :: a7 :: a8 :: a9 :: a10 :: a11 :: a12 :: a13 :: a14 :: a15 :: a16 :: a17 :: a18 :: a19 :: a20 :: a21 :: a22 :: a23 :: a24 :: a25 :: a26 :: a27 :: some d :: ρ) c) Q E = Q d c := by rw [dE]; rfl
theorem v_29 (a0 a1 a2 a3 a4 a5 a6 a7 a8 a9 a10 a11 a12 a13 a14 a15 a16 a17 a18 a19 a20 a21 a22 a23 a24 a25 a26 a27 a28 : Option D) (d : D) (ρ : Lo) : wR (dE Γ (.v 29) (a0 :: a1 :: a2 :: a3 :: a4 :: a5 :: a6 :: a7 :: a8 :: a9 :: a10 :: a11 :: a12 :: a13 :: a14 :: a15 :: a16 :: a17 :: a18 :: a19 :: a20 :: a21 :: a22 :: a23 :: a24 :: a25 :: a26 :: a27 :: a28 :: some d :: ρ) c) Q E = Q d c := by rw [dE]; rfl
theorem v_30 (a0 a1 a2 a3 a4 a5 a6 a7 a8 a9 a10 a11 a12 a13 a14 a15 a16 a17 a18 a19 a20 a21 a22 a23 a24 a25 a26 a27 a28 a29 : Option D) (d : D) (ρ : Lo) : wR (dE Γ (.v 30) (a0 :: a1 :: a2 :: a3 :: a4 :: a5 :: a6 :: a7 :: a8 :: a9 :: a10 :: a11 :: a12 :: a13 :: a14 :: a15 :: a16 :: a17 :: a18 :: a19 :: a20 :: a21 :: a22 :: a23 :: a24 :: a25 :: a26 :: a27 :: a28 :: a29 :: some d :: ρ) c) Q E = Q d c := by rw [dE]; rfl
theorem v_31 (a0 a1 a2 a3 a4 a5 a6 a7 a8 a9 a10 a11 a12 a13 a14 a15 a16 a17 a18 a19 a20 a21 a22 a23 a24 a25 a26 a27 a28 a29 a30 : Option D) (d : D) (ρ : Lo) : wR (dE Γ (.v 31) (a0 :: a1 :: a2 :: a3 :: a4 :: a5 :: a6 :: a7 :: a8 :: a9 :: a10 :: a11 :: a12 :: a13 :: a14 :: a15 :: a16 :: a17 :: a18 :: a19 :: a20 :: a21 :: a22 :: a23 :: a24 :: a25 :: a26 :: a27 :: a28 :: a29 :: a30 :: some d :: ρ) c) Q E = Q d c := by rw [dE]; rfl
theorem as_0 (x : Option D) (d : D) (ρ : Lo) : wA (asg c (.v 0) d (x :: ρ)) P = P (some d :: ρ) := by rw [asg]; rfl
theorem as_1 (a0 : Option D) (x : Option D) (d : D) (ρ : Lo) : wA (asg c (.v 1) d (a0 :: x :: ρ)) P = P (a0 :: some d :: ρ) := by rw [asg]; rfl
theorem as_2 (a0 a1 : Option D) (x : Option D) (d : D) (ρ : Lo) : wA (asg c (.v 2) d (a0 :: a1 :: x :: ρ)) P = P (a0 :: a1 :: some d :: ρ) := by rw [asg]; rfl
theorem as_3 (a0 a1 a2 : Option D) (x : Option D) (d : D) (ρ : Lo) : wA (asg c (.v 3) d (a0 :: a1 :: a2 :: x :: ρ)) P = P (a0 :: a1 :: a2 :: some d :: ρ) := by rw [asg]; rfl
theorem as_4 (a0 a1 a2 a3 : Option D) (x : Option D) (d : D) (ρ : Lo) : wA (asg c (.v 4) d (a0 :: a1 :: a2 :: a3 :: x :: ρ)) P = P (a0 :: a1 :: a2 :: a3 :: some d :: ρ) := by rw [asg]; rfl
theorem as_5 (a0 a1 a2 a3 a4 : Option D) (x : Option D) (d : D) (ρ : Lo) : wA (asg c (.v 5) d (a0 :: a1 :: a2 :: a3 :: a4 :: x :: ρ)) P = P (a0 :: a1 :: a2 :: a3 :: a4 :: some d :: ρ) := by rw [asg]; rfl
theorem as_6 (a0 a1 a2 a3 a4 a5 : Option D) (x : Option D) (d : D) (ρ : Lo) : wA (asg c (.v 6) d (a0 :: a1 :: a2 :: a3 :: a4 :: a5 :: x :: ρ)) P = P (a0 :: a1 :: a2 :: a3 :: a4 :: a5 :: some d :: ρ) := by rw [asg]; rfl
theorem as_7 (a0 a1 a2 a3 a4 a5 a6 : Option D) (x : Option D) (d : D) (ρ : Lo) : wA (asg c (.v 7) d (a0 :: a1 :: a2 :: a3 :: a4 :: a5 :: a6 :: x :: ρ)) P = P (a0 :: a1 :: a2 :: a3 :: a4 :: a5 :: a6 :: some d :: ρ) := by rw [asg]; rfl
theorem as_8 (a0 a1 a2 a3 a4 a5 a6 a7 : Option D) (x : Option D) (d : D) (ρ : Lo) : wA (asg c (.v 8) d (a0 :: a1 :: a2 :: a3 :: a4 :: a5 :: a6 :: a7 :: x :: ρ)) P = P (a0 :: a1 :: a2 :: a3 :: a4 :: a5 :: a6 :: a7 :: some d :: ρ) := by rw [asg]; rfl
theorem as_9 (a0 a1 a2 a3 a4 a5 a6 a7 a8 : Option D) (x : Option D) (d : D) (ρ : Lo) : wA (asg c (.v 9) d (a0 :: a1 :: a2 :: a3 :: a4 :: a5 :: a6 :: a7 :: a8 :: x :: ρ)) P = P (a0 :: a1 :: a2 :: a3 :: a4 :: a5 :: a6 :: a7 :: a8 :: some d :: ρ) := by rw [asg]; rfl
theorem as_10 (a0 a1 a2 a3 a4 a5 a6 a7 a8 a9 : Option D) (x : Option D) (d : D) (ρ : Lo) : wA (asg c (.v 10) d (a0 :: a1 :: a2 :: a3 :: a4 :: a5 :: a6 :: a7 :: a8 :: a9 :: x :: ρ)) P = P (a0 :: a1 :: a2 :: a3 :: a4 :: a5 :: a6 :: a7 :: a8 :: a9 :: some d :: ρ) := by rw [asg]; rfl
theorem as_11 (a0 a1 a2 a3 a4 a5 a6 a7 a8 a9 a10 : Option D) (x : Option D) (d : D) (ρ : Lo) : wA (asg c (.v 11) d (a0 :: a1 :: a2 :: a3 :: a4 :: a5 :: a6 :: a7 :: a8 :: a9 :: a10 :: x :: ρ)) P = P (a0 :: a1 :: a2 :: a3 :: a4 :: a5 :: a6 :: a7 :: a8 :: a9 :: a10 :: some d :: ρ) := by rw [asg]; rfl
theorem as_12 (a0 a1 a2 a3 a4 a5 a6 a7 a8 a9 a10 a11 : Option D) (x : Option D) (d : D) (ρ : Lo) : wA (asg c (.v 12) d (a0 :: a1 :: a2 :: a3 :: a4 :: a5 :: a6 :: a7 :: a8 :: a9 :: a10 :: a11 :: x :: ρ)) P = P (a0 :: a1 :: a2 :: a3 :: a4 :: a5 :: a6 :: a7 :: a8 :: a9 :: a10 :: a11 :: some d :: ρ) := by rw [asg]; rfl
theorem as_13 (a0 a1 a2 a3 a4 a5 a6 a7 a8 a9 a10 a11 a12 : Option D) (x : Option D) (d : D) (ρ : Lo) : wA (asg c (.v 13) d (a0 :: a1 :: a2 :: a3 :: a4 :: a5 :: a6 :: a7 :: a8 :: a9 :: a10 :: a11 :: a12 :: x :: ρ)) P = P (a0 :: a1 :: a2 :: a3 :: a4 :: a5 :: a6 :: a7 :: a8 :: a9 :: a10 :: a11 :: a12 :: some d :: ρ) := by rw [asg]; rfl
theorem as_14 (a0 a1 a2 a3 a4 a5 a6 a7 a8 a9 a10 a11 a12 a13 : Option D) (x : Option D) (d : D) (ρ : Lo) : wA (asg c (.v 14) d (a0 :: a1 :: a2 :: a3 :: a4 :: a5 :: a6 :: a7 :: a8 :: a9 :: a10 :: a11 :: a12 :: a13 :: x :: ρ)) P = P (a0 :: a1 :: a2 :: a3 :: a4 :: a5 :: a6 :: a7 :: a8 :: a9 :: a10 :: a11 :: a12 :: a13 :: some d :: ρ) := by rw [asg]; rfl
theorem as_15 (a0 a1 a2 a3 a4 a5 a6 a7 a8 a9 a10 a11 a12 a13 a14 : Option D) (x : Option D) (d : D) (ρ : Lo) : wA (asg c (.v 15) d (a0 :: a1 :: a2 :: a3 :: a4 :: a5 :: a6 :: a7 :: a8 :: a9 :: a10 :: a11 :: a12 :: a13 :: a14 :: x :: ρ)) P = P (a0 :: a1 :: a2 :: a3 :: a4 :: a5 :: a6 :: a7 :: a8 :: a9 :: a10 :: a11 :: a12 :: a13 :: a14 :: some d :: ρ) := by rw [asg]; rfl
theorem as_16 (a0 a1 a2 a3 a4 a5 a6 a7 a8 a9 a10 a11 a12 a13 a14 a15 : Option D) (x : Option D) (d : D) (ρ : Lo) : wA (asg c (.v 16) d (a0 :: a1 :: a2 :: a3 :: a4 :: a5 :: a6 :: a7 :: a8 :: a9 :: a10 :: a11 :: a12 :: a13 :: a14 :: a15 :: x :: ρ)) P = P (a0 :: a1 :: a2 :: a3 :: a4 :: a5 :: a6 :: a7 :: a8 :: a9 :: a10 :: a11 :: a12 :: a13 :: a14 :: a15 :: some d :: ρ) := by rw [asg]; rfl
theorem as_17 (a0 a1 a2 a3 a4 a5 a6 a7 a8 a9 a10 a11 a12 a13 a14 a15 a16 : Option D) (x : Option D) (d : D) (ρ : Lo) : wA (asg c (.v 17) d (a0 :: a1 :: a2 :: a3 :: a4 :: a5 :: a6 :: a7 :: a8 :: a9 :: a10 :: a11 :: a12 :: a13 :: a14 :: a15 :: a16 :: x :: ρ)) P = P (a0 :: a1 :: a2 :: a3 :: a4 :: a5 :: a6 :: a7 :: a8 :: a9 :: a10 :: a11 :: a12 :: a13 :: a14 :: a15 :: a16 :: some d :: ρ) := by rw [asg]; rfl
theorem as_18 (a0 a1 a2 a3 a4 a5 a6 a7 a8 a9 a10 a11 a12 a13 a14 a15 a16 a17 : Option D) (x : Option D) (d : D) (ρ : Lo) : wA (asg c (.v 18) d (a0 :: a1 :: a2 :: a3 :: a4 :: a5 :: a6 :: a7 :: a8 :: a9 :: a10 :: a11 :: a12 :: a13 :: a14 :: a15 :: a16 :: a17 :: x :: ρ)) P = P (a0 :: a1 :: a2 :: a3 :: a4 :: a5 :: a6 :: a7 :: a8 :: a9 :: a10 :: a11 :: a12 :: a13 :: a14 :: a15 :: a16 :: a17 :: some d :: ρ) := by rw [asg]; rfl
theorem as_19 (a0 a1 a2 a3 a4 a5 a6 a7 a8 a9 a10 a11 a12 a13 a14 a15 a16 a17 a18 : Option D) (x : Option D) (d : D) (ρ : Lo) : wA (asg c (.v 19) d (a0 :: a1 :: a2 :: a3 :: a4 :: a5 :: a6 :: a7 :: a8 :: a9 :: a10 :: a11 :: a12 :: a13 :: a14 :: a15 :: a16 :: a17 :: a18 :: x :: ρ)) P = P (a0 :: a1 :: a2 :: a3 :: a4 :: a5 :: a6 :: a7 :: a8 :: a9 :: a10 :: a11 :: a12 :: a13 :: a14 :: a15 :: a16 :: a17 :: a18 :: some d :: ρ) := by rw [asg]; rfl
theorem as_20 (a0 a1 a2 a3 a4 a5 a6 a7 a8 a9 a10 a11 a12 a13 a14 a15 a16 a17 a18 a19 : Option D) (x : Option D) (d : D) (ρ : Lo) : wA (asg c (.v 20) d (a0 :: a1 :: a2 :: a3 :: a4 :: a5 :: a6 :: a7 :: a8 :: a9 :: a10 :: a11 :: a12 :: a13 :: a14 :: a15 :: a16 :: a17 :: a18 :: a19 :: x :: ρ)) P = P (a0 :: a1 :: a2 :: a3 :: a4 :: a5 :: a6 :: a7 :: a8 :: a9 :: a10 :: a11 :: a12 :: a13 :: a14 :: a15 :: a16 :: a17 :: a18 :: a19 :: some d :: ρ) := by rw [asg]; rfl
theorem as_21 (a0 a1 a2 a3 a4 a5 a6 a7 a8 a9 a10 a11 a12 a13 a14 a15 a16 a17 a18 a19 a20 : Option D) (x : Option D) (d : D) (ρ : Lo) : wA (asg c (.v 21) d (a0 :: a1 :: a2 :: a3 :: a4 :: a5 :: a6 :: a7 :: a8 :: a9 :: a10 :: a11 :: a12 :: a13 :: a14 :: a15 :: a16 :: a17 :: a18 :: a19 :: a20 :: x :: ρ)) P = P (a0 :: a1 :: a2 :: a3 :: a4 :: a5 :: a6 :: a7 :: a8 :: a9 :: a10 :: a11 :: a12 :: a13 :: a14 :: a15 :: a16 :: a17 :: a18 :: a19 :: a20 :: some d :: ρ) := by rw [asg]; rfl
theorem as_22 (a0 a1 a2 a3 a4 a5 a6 a7 a8 a9 a10 a11 a12 a13 a14 a15 a16 a17 a18 a19 a20 a21 : Option D) (x : Option D) (d : D) (ρ : Lo) : wA (asg c (.v 22) d (a0 :: a1 :: a2 :: a3 :: a4 :: a5 :: a6 :: a7 :: a8 :: a9 :: a10 :: a11 :: a12 :: a13 :: a14 :: a15 :: a16 :: a17 :: a18 :: a19 :: a20 :: a21 :: x :: ρ)) P = P (a0 :: a1 :: a2 :: a3 :: a4 :: a5 :: a6 :: a7 :: a8 :: a9 :: a10 :: a11 :: a12 :: a13 :: a14 :: a15 :: a16 :: a17 :: a18 :: a19 :: a20 :: a21 :: some d :: ρ) := by rw [asg]; rfl
theorem as_23 (a0 a1 a2 a3 a4 a5 a6 a7 a8 a9 a10 a11 a12 a13 a14 a15 a16 a17 a18 a19 a20 a21 a22 : Option D) (x : Option D) (d : D) (ρ : Lo) : wA (asg c (.v 23) d (a0 :: a1 :: a2 :: a3 :: a4 :: a5 :: a6 :: a7 :: a8 :: a9 :: a10 :: a11 :: a12 :: a13 :: a14 :: a15 :: a16 :: a17 :: a18 :: a19 :: a20 :: a21 :: a22 :: x :: ρ)) P = P (a0 :: a1 :: a2 :: a3 :: a4 :: a5 :: a6 :: a7 :: a8 :: a9 :: a10 :: a11 :: a12 :: a13 :: a14 :: a15 :: a16 :: a17 :: a18 :: a19 :: a20 :: a21 :: a22 :: some d :: ρ) := by rw [asg]; rfl
theorem as_24 (a0 a1 a2 a3 a4 a5 a6 a7 a8 a9 a10 a11 a12 a13 a14 a15 a16 a17 a18 a19 a20 a21 a22 a23 : Option D) (x : Option D) (d : D) (ρ : Lo) : wA (asg c (.v 24) d (a0 :: a1 :: a2 :: a3 :: a4 :: a5 :: a6 :: a7 :: a8 :: a9 :: a10 :: a11 :: a12 :: a13 :: a14 :: a15 :: a16 :: a17 :: a18 :: a19 :: a20 :: a21 :: a22 :: a23 :: x :: ρ)) P = P (a0 :: a1 :: a2 :: a3 :: a4 :: a5 :: a6 :: a7 :: a8 :: a9 :: a10 :: a11 :: a12 :: a13 :: a14 :: a15 :: a16 :: a17 :: a18 :: a19 :: a20 :: a21 :: a22 :: a23 :: some d :: ρ) := by rw [asg]; rfl
theorem as_25 (a0 a1 a2 a3 a4 a5 a6 a7 a8 a9 a10 a11 a12 a13 a14 a15 a16 a17 a18 a19 a20 a21 a22 a23 a24 : Option D) (x : Option D) (d : D) (ρ : Lo) : wA (asg c (.v 25) d (a0 :: a1 :: a2 :: a3 :: a4 :: a5 :: a6 :: a7 :: a8 :: a9 :: a10 :: a11 :: a12 :: a13 :: a14 :: a15 :: a16 :: a17 :: a18 :: a19 :: a20 :: a21 :: a22 :: a23 :: a24 :: x :: ρ)) P = P (a0 :: a1 :: a2 :: a3 :: a4 :: a5 :: a6 :: a7 :: a8 :: a9 :: a10 :: a11 :: a12 :: a13 :: a14 :: a15 :: a16 :: a17 :: a18 :: a19 :: a20 :: a21 :: a22 :: a23 :: a24 :: some d :: ρ) := by rw [asg]; rfl
theorem as_26 (a0 a1 a2 a3 a4 a5 a6 a7 a8 a9 a10 a11 a12 a13 a14 a15 a16 a17 a18 a19 a20 a21 a22 a23 a24 a25 : Option D) (x : Option D) (d : D) (ρ : Lo) : wA (asg c (.v 26) d (a0 :: a1 :: a2 :: a3 :: a4 :: a5 :: a6 :: a7 :: a8 :: a9 :: a10 :: a11 :: a12 :: a13 :: a14 :: a15 :: a16 :: a17 :: a18 :: a19 :: a20 :: a21 :: a22 :: a23 :: a24 :: a25 :: x :: ρ)) P = P (a0 :: a1 :: a2 :: a3 :: a4 :: a5 :: a6 :: a7 :: a8 :: a9 :: a10 :: a11 :: a12 :: a13 :: a14 :: a15 :: a16 :: a17 :: a18 :: a19 :: a20 :: a21 :: a22 :: a23 :: a24 :: a25 :: some d :: ρ) := by rw [asg]; rfl
theorem as_27 (a0 a1 a2 a3 a4 a5 a6 a7 a8 a9 a10 a11 a12 a13 a14 a15 a16 a17 a18 a19 a20 a21 a22 a23 a24 a25 a26 : Option D) (x : Option D) (d : D) (ρ : Lo) : wA (asg c (.v 27) d (a0 :: a1 :: a2 :: a3 :: a4 :: a5 :: a6 :: a7 :: a8 :: a9 :: a10 :: a11 :: a12 :: a13 :: a14 :: a15 :: a16 :: a17 :: a18 :: a19 :: a20 :: a21 :: a22 :: a23 :: a24 :: a25 :: a26 :: x :: ρ)) P = P (a0 :: a1 :: a2 :: a3 :: a4 :: a5 :: a6 :: a7 :: a8 :: a9 :: a10 :: a11 :: a12 :: a13 :: a14 :: a15 :: a16 :: a17 :: a18 :: a19 :: a20 :: a21 :: a22 :: a23 :: a24 :: a25 :: a26 :: some d :: ρ) := by rw [asg]; rfl
theorem as_28 (a0 a1 a2 a3 a4 a5 a6 a7 a8 a9 a10 a11 a12 a13 a14 a15 a16 a17 a18 a19 a20 a21 a22 a23 a24 a25 a26 a27 : Option D) (x : Option D) (d : D) (ρ : Lo) : wA (asg c (.v 28) d (a0 :: a1 :: a2 :: a3 :: a4 :: a5 :: a6 :: a7 :: a8 :: a9 :: a10 :: a11 :: a12 :: a13 :: a14 :: a15 :: a16 :: a17 :: a18 :: a19 :: a20 :: a21 :: a22 :: a23 :: a24 :: a25 :: a26 :: a27 :: x :: ρ)) P = P (a0 :: a1 :: a2 :: a3 :: a4 :: a5 :: a6 :: a7 :: a8 :: a9 :: a10 :: a11 :: a12 :: a13 :: a14 :: a15 :: a16 :: a17 :: a18 :: a19 :: a20 :: a21 :: a22 :: a23 :: a24 :: a25 :: a26 :: a27 :: some d :: ρ) := by rw [asg]; rfl
theorem as_29 (a0 a1 a2 a3 a4 a5 a6 a7 a8 a9 a10 a11 a12 a13 a14 a15 a16 a17 a18 a19 a20 a21 a22 a23 a24 a25 a26 a27 a28 : Option D) (x : Option D) (d : D) (ρ : Lo) : wA (asg c (.v 29) d (a0 :: a1 :: a2 :: a3 :: a4 :: a5 :: a6 :: a7 :: a8 :: a9 :: a10 :: a11 :: a12 :: a13 :: a14 :: a15 :: a16 :: a17 :: a18 :: a19 :: a20 :: a21 :: a22 :: a23 :: a24 :: a25 :: a26 :: a27 :: a28 :: x :: ρ)) P = P (a0 :: a1 :: a2 :: a3 :: a4 :: a5 :: a6 :: a7 :: a8 :: a9 :: a10 :: a11 :: a12 :: a13 :: a14 :: a15 :: a16 :: a17 :: a18 :: a19 :: a20 :: a21 :: a22 :: a23 :: a24 :: a25 :: a26 :: a27 :: a28 :: some d :: ρ) := by rw [asg]; rfl
theorem as_30 (a0 a1 a2 a3 a4 a5 a6 a7 a8 a9 a10 a11 a12 a13 a14 a15 a16 a17 a18 a19 a20 a21 a22 a23 a24 a25 a26 a27 a28 a29 : Option D) (x : Option D) (d : D) (ρ : Lo) : wA (asg c (.v 30) d (a0 :: a1 :: a2 :: a3 :: a4 :: a5 :: a6 :: a7 :: a8 :: a9 :: a10 :: a11 :: a12 :: a13 :: a14 :: a15 :: a16 :: a17 :: a18 :: a19 :: a20 :: a21 :: a22 :: a23 :: a24 :: a25 :: a26 :: a27 :: a28 :: a29 :: x :: ρ)) P = P (a0 :: a1 :: a2 :: a3 :: a4 :: a5 :: a6 :: a7 :: a8 :: a9 :: a10 :: a11 :: a12 :: a13 :: a14 :: a15 :: a16 :: a17 :: a18 :: a19 :: a20 :: a21 :: a22 :: a23 :: a24 :: a25 :: a26 :: a27 :: a28 :: a29 :: some d :: ρ) := by rw [asg]; rfl
theorem as_31 (a0 a1 a2 a3 a4 a5 a6 a7 a8 a9 a10 a11 a12 a13 a14 a15 a16 a17 a18 a19 a20 a21 a22 a23 a24 a25 a26 a27 a28 a29 a30 : Option D) (x : Option D) (d : D) (ρ : Lo) : wA (asg c (.v 31) d (a0 :: a1 :: a2 :: a3 :: a4 :: a5 :: a6 :: a7 :: a8 :: a9 :: a10 :: a11 :: a12 :: a13 :: a14 :: a15 :: a16 :: a17 :: a18 :: a19 :: a20 :: a21 :: a22 :: a23 :: a24 :: a25 :: a26 :: a27 :: a28 :: a29 :: a30 :: x :: ρ)) P = P (a0 :: a1 :: a2 :: a3 :: a4 :: a5 :: a6 :: a7 :: a8 :: a9 :: a10 :: a11 :: a12 :: a13 :: a14 :: a15 :: a16 :: a17 :: a18 :: a19 :: a20 :: a21 :: a22 :: a23 :: a24 :: a25 :: a26 :: a27 :: a28 :: a29 :: a30 :: some d :: ρ) := by rw [asg]; rfl
theorem as_t (ts : List Tg) (xs : List D) (ρ : Lo) : wA (asg c (.tup ts) (.tup xs) ρ) P = wA (asgs c ts xs ρ) P := by rw [asg_t]
theorem as_n (ρ : Lo) : wA (asgs c [] [] ρ) P = P ρ := by rw [asgs_n]; rfl
theorem as_c (t : Tg) (ts : List Tg) (x : D) (xs : List D) (ρ : Lo) : wA (asgs c (t :: ts) (x :: xs) ρ) P = wA (asg c t x ρ) fun ρ1 => wA (asgs c ts xs ρ1) P := by
  rw [asgs_c]; cases asg c t x ρ <;> rfl
theorem x1_0 (a0 : D) : wR (opIx (.tup [a0]) (.int 0) c) Q E = Q a0 c := rfl
theorem x2_0 (a0 a1 : D) : wR (opIx (.tup [a0, a1]) (.int 0) c) Q E = Q a0 c := rfl
theorem x2_1 (a0 a1 : D) : wR (opIx (.tup [a0, a1]) (.int 1) c) Q E = Q a1 c := rfl
theorem x3_0 (a0 a1 a2 : D) : wR (opIx (.tup [a0, a1, a2]) (.int 0) c) Q E = Q a0 c := rfl
theorem x3_1 (a0 a1 a2 : D) : wR (opIx (.tup [a0, a1, a2]) (.int 1) c) Q E = Q a1 c := rfl
theorem x3_2 (a0 a1 a2 : D) : wR (opIx (.tup [a0, a1, a2]) (.int 2) c) Q E = Q a2 c := rfl
theorem x4_0 (a0 a1 a2 a3 : D) : wR (opIx (.tup [a0, a1, a2, a3]) (.int 0) c) Q E = Q a0 c := rfl
theorem x4_1 (a0 a1 a2 a3 : D) : wR (opIx (.tup [a0, a1, a2, a3]) (.int 1) c) Q E = Q a1 c := rfl
theorem x4_2 (a0 a1 a2 a3 : D) : wR (opIx (.tup [a0, a1, a2, a3]) (.int 2) c) Q E = Q a2 c := rfl
theorem x4_3 (a0 a1 a2 a3 : D) : wR (opIx (.tup [a0, a1, a2, a3]) (.int 3) c) Q E = Q a3 c := rfl
theorem x5_0 (a0 a1 a2 a3 a4 : D) : wR (opIx (.tup [a0, a1, a2, a3, a4]) (.int 0) c) Q E = Q a0 c := rfl
theorem x5_1 (a0 a1 a2 a3 a4 : D) : wR (opIx (.tup [a0, a1, a2, a3, a4]) (.int 1) c) Q E = Q a1 c := rfl
theorem x5_2 (a0 a1 a2 a3 a4 : D) : wR (opIx (.tup [a0, a1, a2, a3, a4]) (.int 2) c) Q E = Q a2 c := rfl
theorem x5_3 (a0 a1 a2 a3 a4 : D) : wR (opIx (.tup [a0, a1, a2, a3, a4]) (.int 3) c) Q E = Q a3 c := rfl
theorem x5_4 (a0 a1 a2 a3 a4 : D) : wR (opIx (.tup [a0, a1, a2, a3, a4]) (.int 4) c) Q E = Q a4 c := rfl
theorem ce_ii (i j : Int) : wR (opCmp .Eq (.int i) (.int j) c) Q E = Q (.bl (i == j)) c := by rw [c_eq, q_ii]; rfl
theorem ce_bb (i j : Bool) : wR (opCmp .Eq (.bl i) (.bl j) c) Q E = Q (.bl (i == j)) c := by rw [c_eq, q_bb]; rfl
theorem ce_2 (i j k l : Int) : wR (opCmp .Eq (.tup [.int i, .int j]) (.tup [.int k, .int l]) c) Q E = Q (.bl (i == k && j == l)) c := by rw [c_eq, q_2]; rfl
theorem ce_3 (i j k l m n : Int) : wR (opCmp .Eq (.tup [.int i, .int j, .int k]) (.tup [.int l, .int m, .int n]) c) Q E = Q (.bl (i == l && (j == m && k == n))) c := by rw [c_eq, q_3]; rfl
theorem cn_ii (i j : Int) : wR (opCmp .NotEq (.int i) (.int j) c) Q E = Q (.bl (!(i == j))) c := by rw [c_ne, q_ii]; rfl
theorem cn_bb (i j : Bool) : wR (opCmp .NotEq (.bl i) (.bl j) c) Q E = Q (.bl (!(i == j))) c := by rw [c_ne, q_bb]; rfl
theorem cn_2 (i j k l : Int) : wR (opCmp .NotEq (.tup [.int i, .int j]) (.tup [.int k, .int l]) c) Q E = Q (.bl (!(i == k && j == l))) c := by rw [c_ne, q_2]; rfl
theorem cn_3 (i j k l m n : Int) : wR (opCmp .NotEq (.tup [.int i, .int j, .int k]) (.tup [.int l, .int m, .int n]) c) Q E = Q (.bl (!(i == l && (j == m && k == n)))) c := by rw [c_ne, q_3]; rfl
variable (A B : Prop) (PB : Bool → Prop)
theorem pk_bl (b : Bool) : pick (truth c (.bl b)) A B = if b = true then A else B := by cases b <;> rfl
theorem pk_true : pick (truth c (.bl true)) A B = A := rfl
theorem pk_false : pick (truth c (.bl false)) A B = B := rfl
theorem pk_dec (p : Prop) [Decidable p] : pick (truth c (.bl (decide p))) A B = if p then A else B := by
  by_cases h : p <;> simp [h, truth, pick]
theorem pk_not (b : Bool) : pick (truth c (.bl (!b))) A B = if b = true then B else A := by cases b <;> rfl
theorem pk_int (i : Int) : pick (truth c (.int i)) A B = if i = 0 then B else A := by
  rw [tr_int, pick_some]
  by_cases h : i = 0 <;> simp [h]
theorem pk_tn : pick (truth c (.tup [])) A B = B := rfl
theorem pk_tc (x : D) (xs : List D) : pick (truth c (.tup (x :: xs))) A B = A := rfl
theorem pk_non : pick (truth c .non) A B = B := rfl
theorem nb_bl (b : Bool) : wB (truth c (.bl b)) PB = PB b := rfl
theorem nb_int (i : Int) : wB (truth c (.int i)) PB = PB (i != 0) := rfl
variable (PS : String → Prop)
theorem yt_non : wTy (tyOf c .non) PS = PS "NoneType" := rfl
theorem yt_bl (b : Bool) : wTy (tyOf c (.bl b)) PS = PS "bool" := rfl
theorem yt_int (i : Int) : wTy (tyOf c (.int i)) PS = PS "int" := rfl
theorem yt_str (x : Str) : wTy (tyOf c (.str x)) PS = PS "str" := rfl
theorem yt_tup (xs : List D) : wTy (tyOf c (.tup xs)) PS = PS "tuple" := rfl
theorem wp_tup (xs : List D) (PP : List D × List Nat → Prop) : wP (itemsD c (.tup xs)) PP = PP (xs, []) := rfl
/-- o[i] = v -/
def wSX (c : Cells) (x y z : D) (P : Cells → Prop) : Prop := wI y fun k => wX c x fun n xs => wN (ixN xs.length k) fun j => P (c.set n (.lst (xs.set j z)))
theorem s_setX (ρ : Lo) (K : SK) (o i e : IE) : wS (dS Γ (.setIx o i e) ρ c) K = wR (dE Γ e ρ c) (fun z c1 => wR (dE Γ o ρ c1) (fun x c2 => wR (dE Γ i ρ c2) (fun y c3 => wSX c3 x y z fun c' => K.nx ρ c') K.ex) K.ex) K.ex := s_setIx Γ ρ c K o i e
theorem gc_bl (b : Bool) (g : Cells) : wR (gcR c (.ok (.bl b) (c ++ g))) Q E = Q (.bl b) c := gc_app _ _ _ _ _ rfl
theorem gc_bl2 (b : Bool) (g h : Cells) : wR (gcR c (.ok (.bl b) (c ++ g ++ h))) Q E = Q (.bl b) c := by rw [List.append_assoc]; exact gc_app _ _ _ _ _ rfl
theorem gc_bl3 (b : Bool) (g h i : Cells) : wR (gcR c (.ok (.bl b) (c ++ g ++ h ++ i))) Q E = Q (.bl b) c := by rw [List.append_assoc, List.append_assoc]; exact gc_app _ _ _ _ _ rfl
theorem gc_i (b : Int) (g : Cells) : wR (gcR c (.ok (.int b) (c ++ g))) Q E = Q (.int b) c := gc_app _ _ _ _ _ rfl
theorem gc_i2 (b : Int) (g h : Cells) : wR (gcR c (.ok (.int b) (c ++ g ++ h))) Q E = Q (.int b) c := by rw [List.append_assoc]; exact gc_app _ _ _ _ _ rfl
theorem gc_n (g : Cells) : wR (gcR c (.ok .non (c ++ g))) Q E = Q .non c := gc_app _ _ _ _ _ rfl
theorem gc_n2 (g h : Cells) : wR (gcR c (.ok .non (c ++ g ++ h))) Q E = Q .non c := by rw [List.append_assoc]; exact gc_app _ _ _ _ _ rfl
theorem gc_ex2 (x : String) (g h : Cells) : wR (gcR c (.ex x (c ++ g ++ h))) Q E = E x c := by rw [List.append_assoc]; exact gc_ex _ _ _ _ _
theorem w_of {r : R D} {d : D} {c' : Cells} (h : r = .ok d c') : wR r Q E = Q d c' := by rw [h]; rfl
theorem w_ex {r : R D} {x : String} {c' : Cells} (h : r = .ex x c') : wR r Q E = E x c' := by rw [h]; rfl
end
end G
end

section
set_option linter.all false
set_option autoImplicit false
set_option maxRecDepth 20000
/-! LL: loops over items of a kind. -/
namespace G
theorem same_self (ws : List Nat) (c : Cells) : same ws c c = true := by simp [same]
/-- a comprehension that changes nothing -/
theorem go_lcP {α : Type} (emb : α → D) (g : α → Option D) {F : D → Cells → R (Option D)} {ws : List Nat} {c : Cells} {E : QX} : ∀ {xs : List α} {Q : List D → Cells → Prop},
    (∀ x ∈ xs, wR (F (emb x) c) (fun o c' => o = g x ∧ c' = c) E) → Q (xs.filterMap g) c → wR (lcGo F ws (xs.map emb) c) Q E
  | [], Q, _, h => h
  | x :: xs, Q, st, en => by
    have h1 := st x List.mem_cons_self
    rw [List.map_cons]
    unfold lcGo
    rw [wR_bind]
    cases q : F (emb x) c with
    | ok o c1 =>
      rw [q] at h1
      obtain ⟨rfl, rfl⟩ := h1
      dsimp only [wR]
      rw [if_pos (same_self _ _)]
      show wR (R.bind _ _) Q E
      rw [wR_bind]
      refine go_lcP emb g (fun y hy => st y (List.mem_cons_of_mem _ hy)) ?_
      rw [List.filterMap_cons] at en
      cases qg : g x with
      | none => rw [qg] at en; exact en
      | some y => rw [qg] at en; exact en
    | ex e c1 => rw [q] at h1; exact h1
    | no => rw [q] at h1; exact h1.elim
/-- the same where all items are kept -/
theorem go_lcA {α : Type} (emb : α → D) (g : α → D) {F : D → Cells → R (Option D)} {ws : List Nat} {c : Cells} {E : QX} {xs : List α} {Q : List D → Cells → Prop}
    (st : ∀ x ∈ xs, wR (F (emb x) c) (fun o c' => o = some (g x) ∧ c' = c) E) (en : Q (xs.map g) c) : wR (lcGo F ws (xs.map emb) c) Q E :=
  go_lcP emb (fun x => some (g x)) st (by rw [List.filterMap_eq_map']; exact en)
/-- the same where items are left out -/
theorem go_lcF {α : Type} (emb : α → D) (p : α → Bool) (g : α → D) {F : D → Cells → R (Option D)} {ws : List Nat} {c : Cells} {E : QX} {xs : List α} {Q : List D → Cells → Prop}
    (st : ∀ x ∈ xs, wR (F (emb x) c) (fun o c' => o = (if p x = true then some (g x) else none) ∧ c' = c) E) (en : Q ((xs.filter p).map g) c) : wR (lcGo F ws (xs.map emb) c) Q E := by
  refine go_lcP emb (fun x => if p x = true then some (g x) else none) st ?_
  have : xs.filterMap (fun x => if p x = true then some (g x) else none) = (xs.filter p).map g := by
    clear st en
    induction xs with
    | nil => rfl
    | cons x xs ih =>
      rw [List.filterMap_cons, List.filter_cons]
      by_cases h : p x = true
      · rw [if_pos h, if_pos h, List.map_cons, ← ih]
      · rw [if_neg h, if_neg h, ← ih]
  rw [this]
  exact en
/-- a for: I of the items still to come -/
theorem go_forM {α : Type} (emb : α → D) {F : D → Lo → Cells → SR} {ws : List Nat} {K : SK} (I : List α → Lo → Cells → Prop) {c0 : Cells} : ∀ {xs : List α} {ρ : Lo} {c : Cells}, I xs ρ c → same ws c0 c = true →
    (∀ x xs ρ c, I (x :: xs) ρ c → same ws c0 c = true → wS (F (emb x) ρ c) ⟨fun ρ' c' => I xs ρ' c' ∧ same ws c0 c' = true, K.rt, K.nx, fun ρ' c' => I xs ρ' c' ∧ same ws c0 c' = true, K.ex⟩) →
    (∀ ρ c, I [] ρ c → same ws c0 c = true → K.nx ρ c) → wS (forGo F ws (xs.map emb) ρ c) K
  | [], ρ, c, h, hs, st, en => en ρ c h hs
  | x :: xs, ρ, c, h, hs, st, en => by
    have h1 := st x xs ρ c h hs
    rw [List.map_cons]
    unfold forGo
    have sm : ∀ {c'}, same ws c0 c' = true → same ws c c' = true := fun {c'} z => by
      simp only [same, List.all_eq_true, decide_eq_true_eq] at *
      exact fun n hn => (hs n hn).symm.trans (z n hn)
    cases q : F (emb x) ρ c with
    | nx ρ' c' =>
      rw [q] at h1
      obtain ⟨a, b⟩ := h1
      dsimp only
      rw [if_pos (sm b)]
      exact go_forM emb I a b st en
    | ct ρ' c' =>
      rw [q] at h1
      obtain ⟨a, b⟩ := h1
      dsimp only
      rw [if_pos (sm b)]
      exact go_forM emb I a b st en
    | bk ρ' c' => rw [q] at h1; exact h1
    | rt d c' => rw [q] at h1; exact h1
    | ex e ρ' c' => rw [q] at h1; exact h1
    | no => rw [q] at h1; exact h1.elim
/-- a for whose cells stay as they are -/
theorem go_forP {α : Type} (emb : α → D) {F : D → Lo → Cells → SR} {ws : List Nat} {K : SK} {c : Cells} (I : List α → Lo → Prop) {xs : List α} {ρ : Lo} (h : I xs ρ)
    (st : ∀ x xs ρ, I (x :: xs) ρ → wS (F (emb x) ρ c) ⟨fun ρ' c' => I xs ρ' ∧ c' = c, K.rt, fun ρ' c' => K.nx ρ' c', fun ρ' c' => I xs ρ' ∧ c' = c, K.ex⟩)
    (en : ∀ ρ, I [] ρ → K.nx ρ c) : wS (forGo F ws (xs.map emb) ρ c) K := by
  refine go_forM emb (I := fun xs ρ c' => I xs ρ ∧ c' = c) (c0 := c) ⟨h, rfl⟩ (same_self _ _) (fun x xs ρ c' hI _ => ?_) fun ρ c' hI _ => ?_
  · obtain ⟨hI, rfl⟩ := hI
    exact wS_imp (st x xs ρ hI) (fun ρ' c' z => ⟨z, by rw [z.2]; exact same_self _ _⟩) (fun _ _ z => z) (fun _ _ z => z) (fun ρ' c' z => ⟨z, by rw [z.2]; exact same_self _ _⟩) fun _ _ z => z
  · obtain ⟨hI, rfl⟩ := hI
    exact en ρ hI
end G
namespace G
open PySem (PyData CmpOp)
theorem py_lst {c : Cells} {n : Nat} {xs : List D} (h : c[n]? = some (.lst xs)) (hf : D.fls xs = true) (hd : D.deps xs ≤ 63) : py c (.ref n) = some (.list (toPs xs)) := by
  unfold py
  have : pyD (pyR c 4) (.ref n) = some (.list (toPs xs)) := by
    unfold pyD
    unfold pyR getL
    rw [h]
    dsimp only
    rw [pyDs_fl _ xs hf]
  rw [this]
  dsimp only
  rw [if_pos]
  obtain ⟨a, b⟩ := lays_fl xs hf
  unfold PySem.SeqAt.shaped
  simp [PyData.canLay0, PyData.depth, a, b]
  omega
theorem eqv_lst {c : Cells} {m n : Nat} {xs ys : List D} (h1 : c[m]? = some (.lst xs)) (h2 : c[n]? = some (.lst ys)) (f1 : D.fls xs = true) (f2 : D.fls ys = true) (d1 : D.deps xs ≤ 63) (d2 : D.deps ys ≤ 63) : eqv c (.ref m) (.ref n) = some (eqDs xs ys) := by
  unfold eqv
  rw [py_lst h1 f1 d1, py_lst h2 f2 d2]
  dsimp only
  show some (PyData.eqv (.list (toPs xs)) (.list (toPs ys))) = _
  rw [← eqvs_toP xs ys f1 f2]
  simp [PyData.eqv]
/-- a list and the empty list just made -/
theorem ce_nil {c : Cells} {m : Nat} {xs : List D} (h1 : c[m]? = some (.lst xs)) (f1 : D.fls xs = true) (d1 : D.deps xs ≤ 63) (Q : QD) (E : QX) : wR (opCmp .Eq (.ref m) (.ref c.length) (c ++ [.lst []])) Q E = Q (.bl xs.isEmpty) (c ++ [.lst []]) := by
  have hm := (List.getElem?_eq_some_iff.mp h1).1
  rw [c_eq, eqv_lst (xs := xs) (ys := []) (by rw [List.getElem?_append_left hm]; exact h1) (last_cell _ _) f1 (by simp [D.fls]) d1 (by simp [D.deps])]
  show Q (.bl (eqDs xs [])) _ = _
  cases xs <;> rfl
theorem cn_nil {c : Cells} {m : Nat} {xs : List D} (h1 : c[m]? = some (.lst xs)) (f1 : D.fls xs = true) (d1 : D.deps xs ≤ 63) (Q : QD) (E : QX) : wR (opCmp .NotEq (.ref m) (.ref c.length) (c ++ [.lst []])) Q E = Q (.bl (!xs.isEmpty)) (c ++ [.lst []]) := by
  have hm := (List.getElem?_eq_some_iff.mp h1).1
  rw [c_ne, eqv_lst (xs := xs) (ys := []) (by rw [List.getElem?_append_left hm]; exact h1) (last_cell _ _) f1 (by simp [D.fls]) d1 (by simp [D.deps])]
  show Q (.bl (!eqDs xs [])) _ = _
  cases xs <;> rfl
/-- xs[0] -/
theorem ix_0 {c : Cells} {n : Nat} {x : D} {xs : List D} (h : c[n]? = some (.lst (x :: xs))) (Q : QD) (E : QX) : wR (opIx (.ref n) (.int 0) c) Q E = Q x c := by
  rw [x_ref]
  unfold getL
  rw [h]
  have : atI (x :: xs) 0 = some x := by unfold atI ixN; simp
  dsimp only [Option.bind]
  rw [this]
  rfl
theorem items_lst {c : Cells} {n : Nat} {xs : List D} (h : c[n]? = some (.lst xs)) (P : List D × List Nat → Prop) : wP (itemsD c (.ref n)) P = P (xs, [n]) := by
  unfold itemsD
  dsimp only
  rw [h]
  rfl
end G
end

section
set_option linter.all false
set_option maxRecDepth 100000
/-! LF: bodies of shared defs. -/
namespace G
open PySem (Str)
/-- T's def f is fn -/
class HasFn (T : Tab) (f : String) (fn : Fn) : Prop where
  h : T.fns.lookup f = some fn
namespace F
abbrev s : String → Str := Str.ofString

def is_number : Fn := ⟨1, 1, [
  .ret (.and (.isi (.v 0) ["int"]) (.not (.isi (.v 0) ["bool"])))]⟩
def common : Fn := ⟨2, 2, [
  .set (.tup [(.v 0), (.v 1)]) (.tup [(.blt .abs [(.v 0)]), (.blt .abs [(.v 1)])]),
  .whl (.cmp .Gt (.v 1) (.k (.int (0)))) [
    .set (.tup [(.v 0), (.v 1)]) (.tup [(.v 1), (.bin .Mod (.v 0) (.v 1))])],
  .ret (.v 0)]⟩
def fraction (cm : String) : Fn := ⟨2, 3, [
  .ife (.cmp .Lt (.v 1) (.k (.int (0)))) [
    .set (.tup [(.v 0), (.v 1)]) (.tup [(.neg (.v 0)), (.neg (.v 1))])] [],
  .set (.v 2) (.call cm [(.v 0), (.v 1)]),
  .ret (.tup [(.bin .FloorDiv (.v 0) (.v 2)), (.bin .FloorDiv (.v 1) (.v 2))])]⟩
def made (cm : String) : Fn := ⟨3, 4, [
  .ife (.cmp .Lt (.v 2) (.k (.int (0)))) [
    .set (.tup [(.v 0), (.v 1), (.v 2)]) (.tup [(.neg (.v 0)), (.neg (.v 1)), (.neg (.v 2))])] [],
  .set (.v 3) (.call cm [(.call cm [(.v 0), (.v 1)]), (.v 2)]),
  .ret (.tup [(.bin .FloorDiv (.v 0) (.v 3)), (.bin .FloorDiv (.v 1) (.v 3)), (.bin .FloorDiv (.v 2) (.v 3))])]⟩
def is_point : Fn := ⟨1, 3, [
  .ife (.or (.not (.isi (.v 0) ["tuple"])) (.or (.cmp .NotEq (.blt .len [(.v 0)]) (.k (.int (3)))) (.not (.blt .all [(.lc [1, 2] (.v 2) (.v 0) [] (.call "is_number" [(.v 2)]))])))) [
    .ret (.k (.bl false))] [],
  .ret (.and (.cmp .GtE (.ix (.v 0) (.k (.int (2)))) (.k (.int (1)))) (.cmp .Eq (.call "common" [(.call "common" [(.ix (.v 0) (.k (.int (0)))), (.ix (.v 0) (.k (.int (1))))]), (.ix (.v 0) (.k (.int (2))))]) (.k (.int (1)))))]⟩
def check_point : Fn := ⟨1, 1, [
  .ife (.not (.call "is_point" [(.v 0)])) [
    .raise "BadShape"] []]⟩
def check_points : Fn := ⟨1, 2, [
  .for (.v 1) (.v 0) [
    .expr (.call "check_point" [(.v 1)])]]⟩
def is_lot : Fn := ⟨1, 3, [
  .ret (.and (.isi (.v 0) ["tuple"]) (.and (.cmp .LtE (.blt .len [(.v 0)]) (.k (.int (40)))) (.blt .all [(.lc [1, 2] (.v 2) (.v 0) [] (.call "is_point" [(.v 2)]))])))]⟩
def compared : Fn := ⟨2, 5, [
  .for (.v 2) (.tup [(.k (.int (0))), (.k (.int (1)))]) [
    .set (.tup [(.v 3), (.v 4)]) (.tup [(.bin .Mult (.ix (.v 0) (.v 2)) (.ix (.v 1) (.k (.int (2))))), (.bin .Mult (.ix (.v 1) (.v 2)) (.ix (.v 0) (.k (.int (2)))))]),
    .ife (.cmp .NotEq (.v 3) (.v 4)) [
      .ret (.ite (.cmp .Lt (.v 3) (.v 4)) (.neg (.k (.int (1)))) (.k (.int (1))))] []],
  .ret (.k (.int (0)))]⟩
def side : Fn := ⟨3, 4, [
  .set (.v 3) (.bin .Add (.bin .Sub (.bin .Mult (.ix (.v 0) (.k (.int (0)))) (.bin .Sub (.bin .Mult (.ix (.v 1) (.k (.int (1)))) (.ix (.v 2) (.k (.int (2))))) (.bin .Mult (.ix (.v 1) (.k (.int (2)))) (.ix (.v 2) (.k (.int (1))))))) (.bin .Mult (.ix (.v 0) (.k (.int (1)))) (.bin .Sub (.bin .Mult (.ix (.v 1) (.k (.int (0)))) (.ix (.v 2) (.k (.int (2))))) (.bin .Mult (.ix (.v 1) (.k (.int (2)))) (.ix (.v 2) (.k (.int (0)))))))) (.bin .Mult (.ix (.v 0) (.k (.int (2)))) (.bin .Sub (.bin .Mult (.ix (.v 1) (.k (.int (0)))) (.ix (.v 2) (.k (.int (1))))) (.bin .Mult (.ix (.v 1) (.k (.int (1)))) (.ix (.v 2) (.k (.int (0)))))))),
  .ret (.bin .Sub (.cmp .Gt (.v 3) (.k (.int (0)))) (.cmp .Lt (.v 3) (.k (.int (0)))))]⟩
def square : Fn := ⟨2, 5, [
  .set (.v 2) (.bin .Mult (.ix (.v 0) (.k (.int (2)))) (.ix (.v 1) (.k (.int (2))))),
  .set (.tup [(.v 3), (.v 4)]) (.tup [(.bin .Sub (.bin .Mult (.ix (.v 0) (.k (.int (0)))) (.ix (.v 1) (.k (.int (2))))) (.bin .Mult (.ix (.v 1) (.k (.int (0)))) (.ix (.v 0) (.k (.int (2)))))), (.bin .Sub (.bin .Mult (.ix (.v 0) (.k (.int (1)))) (.ix (.v 1) (.k (.int (2))))) (.bin .Mult (.ix (.v 1) (.k (.int (1)))) (.ix (.v 0) (.k (.int (2))))))]),
  .ret (.call "fraction" [(.bin .Add (.bin .Mult (.v 3) (.v 3)) (.bin .Mult (.v 4) (.v 4))), (.bin .Mult (.v 2) (.v 2))])]⟩
def lies (sd : String) (cp : String) : Fn := ⟨3, 5, [
  .ife (.cmp .NotEq (.call sd [(.v 0), (.v 1), (.v 2)]) (.k (.int (0)))) [
    .ret (.k (.bl false))] [],
  .set (.tup [(.v 3), (.v 4)]) (.ite (.cmp .LtE (.call cp [(.v 0), (.v 1)]) (.k (.int (0)))) (.tup [(.v 0), (.v 1)]) (.tup [(.v 1), (.v 0)])),
  .ret (.and (.cmp .LtE (.call cp [(.v 3), (.v 2)]) (.k (.int (0)))) (.cmp .LtE (.call cp [(.v 2), (.v 4)]) (.k (.int (0)))))]⟩
def is_segment : Fn := ⟨1, 1, [
  .ret (.and (.isi (.v 0) ["tuple"]) (.and (.cmp .Eq (.blt .len [(.v 0)]) (.k (.int (2)))) (.and (.call "is_point" [(.ix (.v 0) (.k (.int (0))))]) (.and (.call "is_point" [(.ix (.v 0) (.k (.int (1))))]) (.cmp .NotEq (.ix (.v 0) (.k (.int (0)))) (.ix (.v 0) (.k (.int (1)))))))))]⟩
def check_segment : Fn := ⟨1, 1, [
  .ife (.not (.call "is_segment" [(.v 0)])) [
    .raise "BadShape"] []]⟩
def crossing : Fn := ⟨2, 2, [
  .expr (.call "check_segment" [(.v 0)]),
  .expr (.call "check_segment" [(.v 1)]),
  .ret (.call "both_have" [(.v 0), (.v 1)])]⟩
def line : Fn := ⟨2, 2, [
  .ret (.tup [(.bin .Sub (.bin .Mult (.ix (.v 0) (.k (.int (1)))) (.ix (.v 1) (.k (.int (2))))) (.bin .Mult (.ix (.v 0) (.k (.int (2)))) (.ix (.v 1) (.k (.int (1)))))), (.bin .Sub (.bin .Mult (.ix (.v 0) (.k (.int (2)))) (.ix (.v 1) (.k (.int (0))))) (.bin .Mult (.ix (.v 0) (.k (.int (0)))) (.ix (.v 1) (.k (.int (2)))))), (.bin .Sub (.bin .Mult (.ix (.v 0) (.k (.int (0)))) (.ix (.v 1) (.k (.int (1))))) (.bin .Mult (.ix (.v 0) (.k (.int (1)))) (.ix (.v 1) (.k (.int (0))))))])]⟩
def both_have : Fn := ⟨2, 9, [
  .set (.tup [(.tup [(.v 2), (.v 3)]), (.tup [(.v 4), (.v 5)])]) (.tup [(.v 0), (.v 1)]),
  .set (.v 6) (.tup [(.call "side" [(.v 2), (.v 3), (.v 4)]), (.call "side" [(.v 2), (.v 3), (.v 5)]), (.call "side" [(.v 4), (.v 5), (.v 2)]), (.call "side" [(.v 4), (.v 5), (.v 3)])]),
  .ife (.and (.cmp .Eq (.ix (.v 6) (.k (.int (0)))) (.k (.int (0)))) (.cmp .Eq (.ix (.v 6) (.k (.int (1)))) (.k (.int (0))))) [
    .set (.tup [(.v 2), (.v 3)]) (.ite (.cmp .Lt (.call "compared" [(.v 2), (.v 3)]) (.k (.int (0)))) (.tup [(.v 2), (.v 3)]) (.tup [(.v 3), (.v 2)])),
    .set (.tup [(.v 4), (.v 5)]) (.ite (.cmp .Lt (.call "compared" [(.v 4), (.v 5)]) (.k (.int (0)))) (.tup [(.v 4), (.v 5)]) (.tup [(.v 5), (.v 4)])),
    .set (.v 7) (.ite (.cmp .Gt (.call "compared" [(.v 2), (.v 4)]) (.k (.int (0)))) (.v 2) (.v 4)),
    .set (.v 8) (.ite (.cmp .Lt (.call "compared" [(.v 3), (.v 5)]) (.k (.int (0)))) (.v 3) (.v 5)),
    .ife (.cmp .Gt (.call "compared" [(.v 7), (.v 8)]) (.k (.int (0)))) [
      .ret (.k .non)] [],
    .ret (.ite (.cmp .Eq (.v 7) (.v 8)) (.tup [(.k (.str (s "point"))), (.v 7)]) (.tup [(.k (.str (s "part"))), (.tup [(.v 7), (.v 8)])]))] [],
  .ife (.or (.cmp .Gt (.bin .Mult (.ix (.v 6) (.k (.int (0)))) (.ix (.v 6) (.k (.int (1))))) (.k (.int (0)))) (.cmp .Gt (.bin .Mult (.ix (.v 6) (.k (.int (2)))) (.ix (.v 6) (.k (.int (3))))) (.k (.int (0))))) [
    .ret (.k .non)] [],
  .ret (.tup [(.k (.str (s "point"))), (.call "made_of" [(.call "line" [(.v 2), (.v 3)]), (.call "line" [(.v 4), (.v 5)])])])]⟩
def made_of : Fn := ⟨2, 4, [
  .set (.v 2) (.bin .Sub (.bin .Mult (.ix (.v 0) (.k (.int (1)))) (.ix (.v 1) (.k (.int (2))))) (.bin .Mult (.ix (.v 0) (.k (.int (2)))) (.ix (.v 1) (.k (.int (1)))))),
  .set (.v 3) (.bin .Sub (.bin .Mult (.ix (.v 0) (.k (.int (2)))) (.ix (.v 1) (.k (.int (0))))) (.bin .Mult (.ix (.v 0) (.k (.int (0)))) (.ix (.v 1) (.k (.int (2)))))),
  .ret (.call "made" [(.v 2), (.v 3), (.bin .Sub (.bin .Mult (.ix (.v 0) (.k (.int (0)))) (.ix (.v 1) (.k (.int (1))))) (.bin .Mult (.ix (.v 0) (.k (.int (1)))) (.ix (.v 1) (.k (.int (0))))))])]⟩
def _law_box : Fn := ⟨1, 3, [
  .ret (.lst [(.k (.int (0))), (.k (.int (0))), (.k (.int (0))), (.lc [1, 2] (.v 2) (.v 0) [] (.blt .abs [(.blt .int [(.v 2)])]))])]⟩
def _law_take : Fn := ⟨2, 5, [
  .ife (.cmp .Eq (.ix (.v 0) (.k (.int (1)))) (.k (.int (0)))) [
    .set (.v 2) (.ix (.v 0) (.k (.int (2)))),
    .set (.v 3) (.k (.int (0))),
    .ife (.cmp .Lt (.v 2) (.blt .len [(.ix (.v 0) (.k (.int (3))))])) [
      .set (.v 3) (.ix (.ix (.v 0) (.k (.int (3)))) (.v 2)),
      .setIx (.v 0) (.k (.int (1))) (.ite (.cmp .GtE (.v 3) (.bin .Pow (.k (.int (10))) (.k (.int (18))))) (.k (.int (60))) (.neg (.k (.int (9)))))] [],
    .setIx (.v 0) (.k (.int (2))) (.bin .Add (.v 2) (.k (.int (1)))),
    .setIx (.v 0) (.k (.int (0))) (.v 3),
    .ife (.cmp .Eq (.ix (.v 0) (.k (.int (1)))) (.k (.int (0)))) [
      .ret (.k (.int (0)))] []] [],
  .ife (.cmp .Gt (.ix (.v 0) (.k (.int (1)))) (.k (.int (0)))) [
    .set (.v 4) (.bin .Mod (.blt .int [(.ix (.v 0) (.k (.int (0))))]) (.v 1)),
    .setIx (.v 0) (.k (.int (0))) (.bin .FloorDiv (.ix (.v 0) (.k (.int (0)))) (.v 1)),
    .setIx (.v 0) (.k (.int (1))) (.ite (.cmp .Gt (.ix (.v 0) (.k (.int (0)))) (.k (.int (0)))) (.bin .Sub (.ix (.v 0) (.k (.int (1)))) (.k (.int (1)))) (.k (.int (0)))),
    .ret (.v 4)] [],
  .setIx (.v 0) (.k (.int (1))) (.bin .Add (.ix (.v 0) (.k (.int (1)))) (.k (.int (1)))),
  .setIx (.v 0) (.k (.int (0))) (.bin .Mod (.blt .int [(.bin .Add (.bin .Mult (.ix (.v 0) (.k (.int (0)))) (.k (.int (48271)))) (.bin .Mult (.k (.int (69621))) (.bin .Add (.ix (.v 0) (.k (.int (1)))) (.k (.int (20))))))]) (.k (.int (2147483647)))),
  .ret (.bin .Mod (.bin .Mod (.blt .int [(.bin .Add (.bin .FloorDiv (.ix (.v 0) (.k (.int (0)))) (.k (.int (7)))) (.ix (.v 0) (.k (.int (0)))))]) (.k (.int (1000003)))) (.v 1))]⟩
def _law_pick : Fn := ⟨2, 2, [
  .ret (.ix (.v 1) (.call "_law_take" [(.v 0), (.blt .len [(.v 1)])]))]⟩
def _law_point : Fn := ⟨2, 4, [
  .set (.tup [(.v 2), (.v 3)]) (.tup [(.bin .Sub (.call "_law_take" [(.v 0), (.bin .Add (.bin .Mult (.k (.int (2))) (.v 1)) (.k (.int (1))))]) (.v 1)), (.bin .Sub (.call "_law_take" [(.v 0), (.bin .Add (.bin .Mult (.k (.int (2))) (.v 1)) (.k (.int (1))))]) (.v 1))]),
  .ret (.ite (.cmp .Gt (.call "_law_take" [(.v 0), (.k (.int (5)))]) (.k (.int (0)))) (.tup [(.v 2), (.v 3), (.k (.int (1)))]) (.call "_law_made" [(.v 2), (.v 3), (.bin .Add (.k (.int (1))) (.call "_law_take" [(.v 0), (.k (.int (4)))]))]))]⟩
def _law_side : Fn := ⟨3, 4, [
  .set (.v 3) (.bin .Sub (.bin .Mult (.bin .Sub (.bin .Mult (.ix (.v 1) (.k (.int (0)))) (.ix (.v 0) (.k (.int (2))))) (.bin .Mult (.ix (.v 0) (.k (.int (0)))) (.ix (.v 1) (.k (.int (2)))))) (.bin .Sub (.bin .Mult (.ix (.v 2) (.k (.int (1)))) (.ix (.v 0) (.k (.int (2))))) (.bin .Mult (.ix (.v 0) (.k (.int (1)))) (.ix (.v 2) (.k (.int (2))))))) (.bin .Mult (.bin .Sub (.bin .Mult (.ix (.v 1) (.k (.int (1)))) (.ix (.v 0) (.k (.int (2))))) (.bin .Mult (.ix (.v 0) (.k (.int (1)))) (.ix (.v 1) (.k (.int (2)))))) (.bin .Sub (.bin .Mult (.ix (.v 2) (.k (.int (0)))) (.ix (.v 0) (.k (.int (2))))) (.bin .Mult (.ix (.v 0) (.k (.int (0)))) (.ix (.v 2) (.k (.int (2)))))))),
  .ret (.ite (.cmp .Gt (.v 3) (.k (.int (0)))) (.k (.int (1))) (.ite (.cmp .Lt (.v 3) (.k (.int (0)))) (.neg (.k (.int (1)))) (.k (.int (0)))))]⟩
def _law_compared : Fn := ⟨2, 3, [
  .for (.v 2) (.tup [(.k (.int (0))), (.k (.int (1)))]) [
    .ife (.cmp .NotEq (.bin .Mult (.ix (.v 0) (.v 2)) (.ix (.v 1) (.k (.int (2))))) (.bin .Mult (.ix (.v 1) (.v 2)) (.ix (.v 0) (.k (.int (2)))))) [
      .ret (.ite (.cmp .Lt (.bin .Mult (.ix (.v 0) (.v 2)) (.ix (.v 1) (.k (.int (2))))) (.bin .Mult (.ix (.v 1) (.v 2)) (.ix (.v 0) (.k (.int (2)))))) (.neg (.k (.int (1)))) (.k (.int (1))))] []],
  .ret (.k (.int (0)))]⟩
end F
end G
end

section
set_option linter.all false
set_option autoImplicit false
set_option maxRecDepth 20000
/-! LA: numbers in lowest terms. -/
namespace G
/-! ### fractions and points in lowest terms -/
def sg (d : Int) : Int := if d < 0 then -1 else 1
def fr1 (n d : Int) : Int := sg d * n / Int.gcd n d
def fr2 (n d : Int) : Int := sg d * d / Int.gcd n d
def g3 (x y w : Int) : Int := Int.gcd (Int.gcd x y) w
def m1 (x y w : Int) : Int := sg w * x / g3 x y w
def m2 (x y w : Int) : Int := sg w * y / g3 x y w
def m3 (x y w : Int) : Int := sg w * w / g3 x y w
theorem sg_mul (d : Int) : sg d * d = d.natAbs := by unfold sg; split <;> omega
theorem sg_sq (d : Int) : sg d * sg d = 1 := by unfold sg; split <;> rfl
theorem sg_dvd {d k n : Int} (h : k ∣ n) : k ∣ sg d * n := Int.dvd_trans h (Int.dvd_mul_left _ _)
/-- what makes a fraction in lowest terms -/
structure Fr (n d p q : Int) : Prop where
  pos : 0 < q
  cop : Int.gcd p q = 1
  eq : p * d = n * q
theorem fr_ok (n : Int) {d : Int} (h : d ≠ 0) : Fr n d (fr1 n d) (fr2 n d) := by
  have hg : 0 < (Int.gcd n d : Int) := by have := Int.gcd_pos_of_ne_zero_right n h; omega
  have d1 : (Int.gcd n d : Int) ∣ n := Int.gcd_dvd_left ..
  have d2 : (Int.gcd n d : Int) ∣ d := Int.gcd_dvd_right ..
  obtain ⟨a, ha⟩ := d1
  obtain ⟨b, hb⟩ := d2
  have hgn : (Int.gcd n d : Int) ≠ 0 := by omega
  have e1 : fr1 n d = sg d * a := by
    unfold fr1
    rw [show sg d * n = Int.gcd n d * (sg d * a) by rw [Int.mul_left_comm, ← ha], Int.mul_ediv_cancel_left _ hgn]
  have e2 : fr2 n d = sg d * b := by
    unfold fr2
    rw [show sg d * d = Int.gcd n d * (sg d * b) by rw [Int.mul_left_comm, ← hb], Int.mul_ediv_cancel_left _ hgn]
  have hcop : Int.gcd a b = 1 := by
    have h1 : Int.gcd n d = Int.gcd n d * Int.gcd a b := by
      have h5 : Int.gcd (Int.gcd n d * a) (Int.gcd n d * b) = Int.gcd n d * Int.gcd a b := by rw [Int.gcd_mul_left]; simp
      rwa [← ha, ← hb] at h5
    have h2 : 0 < Int.gcd n d := by omega
    exact Nat.eq_of_mul_eq_mul_left h2 (by omega)
  refine ⟨?_, ?_, ?_⟩
  · have h3 : 0 < Int.gcd n d * (sg d * b) := by
      rw [Int.mul_left_comm, ← hb, sg_mul]; omega
    rw [e2]
    exact Int.lt_of_mul_lt_mul_left (a := Int.gcd n d) (by rw [Int.mul_zero]; exact h3) (by omega)
  · rw [e1, e2, Int.gcd_mul_left, hcop]
    unfold sg; split <;> rfl
  · rw [e1, e2, ha, hb]
    grind
theorem cop_scale {a b k : Int} (h : Int.gcd a b = 1) : Int.gcd (k * a) (k * b) = k.natAbs := by rw [Int.gcd_mul_left, h, Nat.mul_one]
theorem dvd_cop {k m n : Int} (h : k ∣ m * n) (c : Int.gcd k m = 1) : k ∣ n := by
  rw [← Int.natAbs_dvd_natAbs] at h ⊢
  rw [Int.natAbs_mul] at h
  exact Nat.Coprime.dvd_of_dvd_mul_left c h
/-- one fraction has one lowest form -/
theorem Fr.uniq {n d p q p' q' : Int} (hd : d ≠ 0) (a : Fr n d p q) (b : Fr n d p' q') : p = p' ∧ q = q' := by
  have e1 : p * q' = p' * q := by
    have h1 := a.eq
    have h2 := b.eq
    have : d * (p * q') = d * (p' * q) := by grind
    exact Int.eq_of_mul_eq_mul_left hd this
  have h1 : q ∣ q' := by
    have : q ∣ p * q' := ⟨p', by rw [e1, Int.mul_comm]⟩
    exact dvd_cop this (by rw [Int.gcd_comm]; exact a.cop)
  have h2 : q' ∣ q := by
    have : q' ∣ p' * q := ⟨p, by rw [← e1, Int.mul_comm]⟩
    exact dvd_cop this (by rw [Int.gcd_comm]; exact b.cop)
  have e2 : q = q' := Int.dvd_antisymm (Int.le_of_lt a.pos) (Int.le_of_lt b.pos) h1 h2
  subst e2
  exact ⟨Int.eq_of_mul_eq_mul_right (by have := a.pos; omega) e1, rfl⟩
/-- points in lowest terms -/
structure Pt (x y w : Int) : Prop where
  pos : 0 < w
  cop : g3 x y w = 1
/-- the same point -/
structure Mk (x y w p q r : Int) : Prop where
  pt : Pt p q r
  ex : p * w = x * r
  ey : q * w = y * r
theorem g3_pos {x y w : Int} (h : w ≠ 0) : 0 < g3 x y w := by
  unfold g3
  have := Int.gcd_pos_of_ne_zero_right (Int.gcd x y : Int) h
  omega
theorem g3_dvd (x y w : Int) : g3 x y w ∣ x ∧ g3 x y w ∣ y ∧ g3 x y w ∣ w := by
  unfold g3
  have h1 : ((Int.gcd (Int.gcd x y) w : Nat) : Int) ∣ (Int.gcd x y : Int) := Int.gcd_dvd_left ..
  exact ⟨Int.dvd_trans h1 (Int.gcd_dvd_left ..), Int.dvd_trans h1 (Int.gcd_dvd_right ..), Int.gcd_dvd_right ..⟩
theorem g3_mul (k x y w : Int) : g3 (k * x) (k * y) (k * w) = k.natAbs * g3 x y w := by
  unfold g3
  rw [Int.gcd_mul_left]
  have : ((k.natAbs * Int.gcd x y : Nat) : Int) = k.natAbs * (Int.gcd x y : Int) := by simp
  rw [this]
  have h2 : Int.gcd ((k.natAbs : Int) * Int.gcd x y) (k * w) = Int.gcd ((k.natAbs : Int) * Int.gcd x y) ((k.natAbs : Int) * w) := by
    rcases Int.natAbs_eq k with h | h
    · rw [← h]
    · rw [show k * w = -((k.natAbs : Int) * w) by rw [← Int.neg_mul, ← h], Int.gcd_neg]
  rw [h2, Int.gcd_mul_left]
  simp
theorem m_ok (x y : Int) {w : Int} (h : w ≠ 0) : Mk x y w (m1 x y w) (m2 x y w) (m3 x y w) := by
  have hg := g3_pos (x := x) (y := y) h
  obtain ⟨⟨a, ha⟩, ⟨b, hb⟩, ⟨c, hc⟩⟩ := g3_dvd x y w
  have hgn : g3 x y w ≠ 0 := by omega
  have e1 : m1 x y w = sg w * a := by
    unfold m1
    rw [show sg w * x = g3 x y w * (sg w * a) by rw [Int.mul_left_comm, ← ha], Int.mul_ediv_cancel_left _ hgn]
  have e2 : m2 x y w = sg w * b := by
    unfold m2
    rw [show sg w * y = g3 x y w * (sg w * b) by rw [Int.mul_left_comm, ← hb], Int.mul_ediv_cancel_left _ hgn]
  have e3 : m3 x y w = sg w * c := by
    unfold m3
    rw [show sg w * w = g3 x y w * (sg w * c) by rw [Int.mul_left_comm, ← hc], Int.mul_ediv_cancel_left _ hgn]
  have hcop : g3 a b c = 1 := by
    have h5 := g3_mul (g3 x y w) a b c
    rw [← ha, ← hb, ← hc] at h5
    have h6 : g3 x y w * 1 = g3 x y w * g3 a b c := by
      rw [Int.mul_one]
      exact h5.trans (by rw [Int.natAbs_of_nonneg (by omega)])
    exact (Int.eq_of_mul_eq_mul_left hgn h6).symm
  refine ⟨⟨?_, ?_⟩, ?_, ?_⟩
  · have h3 : 0 < g3 x y w * (sg w * c) := by
      rw [Int.mul_left_comm, ← hc, sg_mul]; omega
    rw [e3]
    exact Int.lt_of_mul_lt_mul_left (a := g3 x y w) (by rw [Int.mul_zero]; exact h3) (by omega)
  · rw [e1, e2, e3, g3_mul, hcop]
    unfold sg; split <;> rfl
  · rw [e1, e3]
    have h7 := hc
    have h8 := ha
    generalize g3 x y w = g at *
    subst h7 h8
    grind
  · rw [e2, e3]
    have h7 := hc
    have h8 := hb
    generalize g3 x y w = g at *
    subst h7 h8
    grind
theorem Mk.uniq {x y w p q r p' q' r' : Int} (hd : w ≠ 0) (a : Mk x y w p q r) (b : Mk x y w p' q' r') : p = p' ∧ q = q' ∧ r = r' := by
  have e1 : p * r' = p' * r := by
    have h1 := a.ex
    have h2 := b.ex
    have : w * (p * r') = w * (p' * r) := by grind
    exact Int.eq_of_mul_eq_mul_left hd this
  have e2 : q * r' = q' * r := by
    have h1 := a.ey
    have h2 := b.ey
    have : w * (q * r') = w * (q' * r) := by grind
    exact Int.eq_of_mul_eq_mul_left hd this
  have hrr : r = r' := by
    have h1 := g3_mul r' p q r
    have h2 := g3_mul r p' q' r'
    rw [a.pt.cop] at h1
    rw [b.pt.cop] at h2
    have h3 : g3 (r' * p) (r' * q) (r' * r) = g3 (r * p') (r * q') (r * r') := by
      rw [Int.mul_comm r' p, Int.mul_comm r' q, Int.mul_comm r' r, e1, e2, Int.mul_comm p' r, Int.mul_comm q' r]
    have := a.pt.pos
    have := b.pt.pos
    omega
  subst hrr
  have h0 : r ≠ 0 := by have := a.pt.pos; omega
  exact ⟨Int.eq_of_mul_eq_mul_right h0 e1, Int.eq_of_mul_eq_mul_right h0 e2, rfl⟩
theorem Pt.mk_self {x y w : Int} (h : Pt x y w) : Mk x y w x y w := ⟨h, rfl, rfl⟩
theorem gcd_sm {n : Nat} {a b : Int} (h : Sm n b) (hb : b ≠ 0) : Sm n (Int.gcd a b : Int) := ⟨by
  have h1 : Int.gcd a b ≤ b.natAbs := Nat.le_of_dvd (by omega) (Int.gcd_dvd_natAbs_right a b)
  have := h.lt
  simp only [Int.natAbs_natCast]
  omega⟩
theorem natAbs_sg (d x : Int) : (sg d * x).natAbs = x.natAbs := by unfold sg; split <;> omega
theorem ediv_sm {n : Nat} {x g : Int} (h : x.natAbs < 2 ^ n) : (x / g).natAbs < 2 ^ n := Nat.lt_of_le_of_lt (Int.natAbs_ediv_le_natAbs x g) h
instance (n : Nat) (x y w : Int) [h : Sm n x] : Sm n (m1 x y w) := ⟨ediv_sm (by rw [natAbs_sg]; exact h.lt)⟩
instance (n : Nat) (x y w : Int) [h : Sm n y] : Sm n (m2 x y w) := ⟨ediv_sm (by rw [natAbs_sg]; exact h.lt)⟩
instance (n : Nat) (x y w : Int) [h : Sm n w] : Sm n (m3 x y w) := ⟨ediv_sm (by rw [natAbs_sg]; exact h.lt)⟩
instance (n : Nat) (x y : Int) [h : Sm n x] : Sm n (fr1 x y) := ⟨ediv_sm (by rw [natAbs_sg]; exact h.lt)⟩
instance (n : Nat) (x y : Int) [h : Sm n y] : Sm n (fr2 x y) := ⟨ediv_sm (by rw [natAbs_sg]; exact h.lt)⟩
/-- bounded -/
structure B3 (x y w : Int) : Prop where
  x : Sm 1000 x
  y : Sm 1000 y
  w : Sm 1000 w
theorem B3.of {x y w : Int} {a b c : Nat} [h1 : Sm a x] [h2 : Sm b y] [h3 : Sm c w] (h : a ≤ 1000 ∧ b ≤ 1000 ∧ c ≤ 1000) : B3 x y w := ⟨h1.mono h.1, h2.mono h.2.1, h3.mono h.2.2⟩
def sgn (i : Int) : Int := b2i (decide (0 < i)) - b2i (decide (i < 0))
theorem sgn_scale {k i : Int} (h : 0 < k) : sgn (k * i) = sgn i := by
  unfold sgn
  have e1 : (0 < k * i) = (0 < i) := by
    rw [eq_iff_iff]
    exact ⟨fun z => Int.lt_of_mul_lt_mul_left (a := k) (by rw [Int.mul_zero]; exact z) (by omega), fun z => Int.mul_pos h z⟩
  have e2 : (k * i < 0) = (i < 0) := by
    rw [eq_iff_iff]
    exact ⟨fun z => Int.lt_of_mul_lt_mul_left (a := k) (by rw [Int.mul_zero]; exact z) (by omega), fun z => Int.mul_neg_of_pos_of_neg h z⟩
  simp only [e1, e2]
theorem sgn_neg (i : Int) : sgn (-i) = -sgn i := by
  unfold sgn b2i
  by_cases h1 : 0 < i
  · have : ¬ (i < 0) := by omega
    simp [h1, this]
  · by_cases h2 : i < 0
    · simp [h1, h2]
    · have : i = 0 := by omega
      subst this; rfl
theorem sgn_if (i : Int) : (if 0 < i then (1 : Int) else if i < 0 then -1 else 0) = sgn i := by
  unfold sgn b2i
  by_cases h1 : 0 < i
  · have : ¬ (i < 0) := by omega
    simp [h1, this]
  · by_cases h2 : i < 0
    · simp [h1, h2]
    · simp [h1, h2]
/-- which of two is ahead -/
def cmpv (x y w x' y' w' : Int) : Int := if x * w' ≠ x' * w then (if x * w' < x' * w then -1 else 1) else if y * w' ≠ y' * w then (if y * w' < y' * w then -1 else 1) else 0
def det (x0 y0 w0 x1 y1 w1 x2 y2 w2 : Int) : Int := x0 * (y1 * w2 - w1 * y2) - y0 * (x1 * w2 - w1 * x2) + w0 * (x1 * y2 - y1 * x2)
theorem Mk.m_eq {x y w p q r : Int} (hw : w ≠ 0) (h : Mk x y w p q r) : m1 x y w = p ∧ m2 x y w = q ∧ m3 x y w = r := (m_ok x y hw).uniq hw h
theorem Fr.fr_eq {n d p q : Int} (hd : d ≠ 0) (h : Fr n d p q) : fr1 n d = p ∧ fr2 n d = q := (fr_ok n hd).uniq hd h
theorem Pt.m_self {x y w : Int} (h : Pt x y w) : m1 x y w = x ∧ m2 x y w = y ∧ m3 x y w = w := Mk.m_eq (by have := h.pos; omega) h.mk_self
/-- two fractions with one denominator make the point -/
theorem m_frs {X Y W p q p' q' : Int} (hw : W ≠ 0) (h : Fr X W p q) (h' : Fr Y W p' q') : m1 (p * q') (p' * q) (q * q') = m1 X Y W ∧ m2 (p * q') (p' * q) (q * q') = m2 X Y W ∧ m3 (p * q') (p' * q) (q * q') = m3 X Y W := by
  have hq : q * q' ≠ 0 := by have := Int.mul_pos h.pos h'.pos; omega
  have a := m_ok X Y hw
  refine Mk.m_eq hq ⟨a.pt, ?_, ?_⟩
  · have e1 := a.ex
    have e2 := h.eq
    refine Int.eq_of_mul_eq_mul_left hw ?_
    grind
  · have e1 := a.ey
    have e2 := h'.eq
    refine Int.eq_of_mul_eq_mul_left hw ?_
    grind
theorem g3_neg1 (x y w : Int) : g3 (-x) y w = g3 x y w := by unfold g3; rw [Int.neg_gcd]
theorem g3_neg2 (x y w : Int) : g3 x (-y) w = g3 x y w := by unfold g3; rw [Int.gcd_neg]
theorem g3_swap (x y w : Int) : g3 y x w = g3 x y w := by unfold g3; rw [Int.gcd_comm y x]
theorem Pt.mir {x y w : Int} (h : Pt x y w) : Pt (-x) y w := ⟨h.pos, by rw [g3_neg1]; exact h.cop⟩
theorem Pt.rot {x y w : Int} (h : Pt x y w) : Pt (-y) x w := ⟨h.pos, by rw [g3_neg1, g3_swap]; exact h.cop⟩
def rx (j x y : Int) : Int := if j = 0 then x else if j = 1 then -y else if j = 2 then -x else y
def ry (j x y : Int) : Int := if j = 0 then y else if j = 1 then x else if j = 2 then -y else -x
theorem mod4 (k : Int) : k % 4 = 0 ∨ k % 4 = 1 ∨ k % 4 = 2 ∨ k % 4 = 3 := by omega
theorem Pt.rots {x y w : Int} (h : Pt x y w) (k : Int) : Pt (rx (k % 4) x y) (ry (k % 4) x y) w := by
  rcases mod4 k with e | e | e | e <;> rw [e]
  · exact h
  · exact h.rot
  · exact h.rot.rot
  · have := h.rot.rot.rot
    rw [Int.neg_neg] at this
    exact this
instance (n m : Nat) (j x y : Int) [h : Sm n x] [k : Sm m y] : Sm (max n m) (rx j x y) := ⟨by
  have h1 := h.mono (Nat.le_max_left n m)
  have h2 := k.mono (Nat.le_max_right n m)
  have h1 := h1.lt
  have h2 := h2.lt
  unfold rx
  split
  · exact h1
  · split
    · rw [Int.natAbs_neg]; exact h2
    · split
      · rw [Int.natAbs_neg]; exact h1
      · exact h2⟩
instance (n m : Nat) (j x y : Int) [h : Sm n x] [k : Sm m y] : Sm (max n m) (ry j x y) := ⟨by
  have h1 := h.mono (Nat.le_max_left n m)
  have h2 := k.mono (Nat.le_max_right n m)
  have h1 := h1.lt
  have h2 := h2.lt
  unfold ry
  split
  · exact h2
  · split
    · exact h1
    · split
      · rw [Int.natAbs_neg]; exact h2
      · rw [Int.natAbs_neg]; exact h1⟩
theorem Fr.m_pt {x y w : Int} (hw : w ≠ 0) : Pt (m1 x y w) (m2 x y w) (m3 x y w) := (m_ok x y hw).pt
/-- differences of shifted points -/
theorem shift_diff {ax aw bx bw x w p r p' r' : Int} (hw : w ≠ 0) (e1 : p * (aw * w) = (ax * w + x * aw) * r) (e2 : p' * (bw * w) = (bx * w + x * bw) * r') : (p * r' - p' * r) * (aw * bw) = (ax * bw - bx * aw) * (r * r') := by
  refine Int.eq_of_mul_eq_mul_left hw ?_
  have h1 : w * ((p * r' - p' * r) * (aw * bw)) = (p * (aw * w)) * (r' * bw) - (p' * (bw * w)) * (r * aw) := by clear e1 e2; grind
  rw [h1, e1, e2]
  clear h1 e1 e2
  grind
theorem sq_sum {X Y X' Y' V V' : Int} (h1 : X * V = X' * V') (h2 : Y * V = Y' * V') : (X * X + Y * Y) * (V * V) = (X' * X' + Y' * Y') * (V' * V') := by
  have h3 : (X * X + Y * Y) * (V * V) = (X * V) * (X * V) + (Y * V) * (Y * V) := by clear h1 h2; grind
  rw [h3, h1, h2]
  clear h1 h2 h3
  grind
theorem fr_same {n d n' d' : Int} (hd : d ≠ 0) (hd' : d' ≠ 0) (h : n * d' = n' * d) : fr1 n d = fr1 n' d' ∧ fr2 n d = fr2 n' d' := by
  have A := fr_ok n' hd'
  refine Fr.fr_eq hd ⟨A.pos, A.cop, ?_⟩
  have e := A.eq
  refine Int.eq_of_mul_eq_mul_left hd' ?_
  have h1 : d' * (fr1 n' d' * d) = (fr1 n' d' * d') * d := by grind
  rw [h1, e]
  have h2 : n' * fr2 n' d' * d = (n' * d) * fr2 n' d' := by grind
  rw [h2, ← h]
  grind
end G
end

section
set_option linter.all false
set_option autoImplicit false
set_option maxRecDepth 20000
/-! LS: data as they are shown. -/
namespace G
open PySem (Str PyData CmpOp)
theorem strOk_of (s : String) : PyData.strOk (Str.ofString s) = true := by
  rw [Str.ofString_eq_toList]
  unfold PyData.strOk
  simp only [List.all_toArray, List.all_map, List.all_eq_true]
  intro x _
  have := x.valid
  simp only [Function.comp, decide_eq_true_eq]
  have h : x.toNat = x.val.toNat := rfl
  have h2 : x.val.toNat < 0xd800 ∨ (0xdfff < x.val.toNat ∧ x.val.toNat < 0x110000) := this
  omega
theorem strOk_app (a b : Str) : PyData.strOk (a ++ b) = (PyData.strOk a && PyData.strOk b) := by
  show PyData.strOk ⟨a.cps ++ b.cps⟩ = _
  unfold PyData.strOk
  simp
theorem StrLen_app (a b : Str) : (a ++ b).length = a.length + b.length := by
  show (Str.append a b).length = _
  simp [Str.append, Str.length]
theorem strOk_join (sep : Str) (h : PyData.strOk sep = true) : ∀ ts : List Str, (∀ t ∈ ts, PyData.strOk t = true) → PyData.strOk (Str.join sep ts) = true
  | [], _ => by simp [Str.join, PyData.strOk, Str.empty]
  | [x], ht => by simpa [Str.join] using ht x (by simp)
  | x :: y :: r, ht => by
    have ih := strOk_join sep h (y :: r) fun t ht' => ht t (List.mem_cons_of_mem _ ht')
    rw [show Str.join sep (x :: y :: r) = x ++ sep ++ Str.join sep (y :: r) from rfl, strOk_app, strOk_app, ht x (by simp), h, ih]; rfl
mutual
/-- may be shown -/
def D.sh : D → Bool
  | .int i => decide (i.natAbs.log2 < 1920)
  | .str x => PyData.strOk (PySem.reprText x)
  | .tup xs => D.shs xs
  | .ref _ => false
  | _ => true
def D.shs : List D → Bool
  | [] => true
  | x :: xs => D.sh x && D.shs xs
end
mutual
/-- how long it is at most -/
def D.wt : D → Nat
  | .int _ => 1921
  | .str x => (PySem.reprText x).length
  | .tup xs => D.wts xs + 3
  | _ => 5
def D.wts : List D → Nat
  | [] => 0
  | x :: xs => D.wt x + 2 + D.wts xs
end
mutual
theorem sh_ok : ∀ d : D, d.sh = true → (toP d).showable = true ∧ (toP d).shown.length ≤ d.wt ∧ PyData.strOk (toP d).shown = true
  | .non, _ => by refine ⟨by simp [toP, PyData.showable], ?_, strOk_of "None"⟩; show (Str.ofString "None").length ≤ 5; decide +kernel
  | .bl b, _ => by
    refine ⟨by simp [toP, PyData.showable], ?_, ?_⟩
    · cases b <;> (simp only [toP, PyData.shown]; decide +kernel)
    · cases b <;> simp only [toP, PyData.shown]
      · exact strOk_of "False"
      · exact strOk_of "True"
  | .int i, h => by
    have h' : i.natAbs.log2 < 1920 := by simpa [D.sh] using h
    refine ⟨by simpa [toP, PyData.showable] using h', ?_, strOk_of _⟩
    have := PySem.int_text_length_le (a := i) (k := 1920) (by decide) h'
    show (Str.ofString (toString i)).length ≤ 1921
    rw [PySem.ofString_length]; omega
  | .str x, h => ⟨by simp [toP, PyData.showable], Nat.le_refl _, by simpa [D.sh, toP, PyData.shown] using h⟩
  | .tup xs, h => by
    obtain ⟨a, b, c, d⟩ := shs_ok xs (by simpa [D.sh] using h)
    refine ⟨by simpa [toP, PyData.showable] using a, ?_, ?_⟩
    · show (PySem.tupleText (PyData.shownAll (toPs xs))).length ≤ D.wts xs + 3
      unfold PySem.tupleText
      rw [StrLen_app, StrLen_app]
      have h1 : (Str.ofString "(").length = 1 := by decide +kernel
      have h2 : ∀ b : Bool, (Str.ofString (if b = true then ",)" else ")")).length ≤ 2 := fun b => by cases b <;> decide +kernel
      have h2 := h2 ((PyData.shownAll (toPs xs)).length == 1)
      have h3 : (Str.join ", " (PyData.shownAll (toPs xs))).length ≤ PySem.piled (PyData.shownAll (toPs xs)) := by
        by_cases z : PyData.shownAll (toPs xs) = []
        · rw [z]; exact Nat.le_refl 0
        · have := PySem.join_length_add _ z; omega
      rw [h1]
      have h2' : (Str.ofString (if ((PyData.shownAll (toPs xs)).length == 1) = true then ",)" else ")")).length ≤ 2 := h2
      omega
    · show PyData.strOk (PySem.tupleText (PyData.shownAll (toPs xs))) = true
      unfold PySem.tupleText
      rw [strOk_app, strOk_app, strOk_join _ (strOk_of ", ") _ c]
      rw [show PyData.strOk ("(" : Str) = true from strOk_of "("]
      exact strOk_of _
  | .ref _, h => by simp [D.sh] at h
theorem shs_ok : ∀ xs : List D, D.shs xs = true → PyData.showableAll (toPs xs) = true ∧ PySem.piled (PyData.shownAll (toPs xs)) ≤ D.wts xs ∧ (∀ t ∈ PyData.shownAll (toPs xs), PyData.strOk t = true) ∧ True
  | [], _ => by simp [toPs, PyData.showableAll, PyData.shownAll, PySem.piled, D.wts]
  | x :: xs, h => by
    have h' : D.sh x = true ∧ D.shs xs = true := by simpa [D.shs] using h
    obtain ⟨a, b, c⟩ := sh_ok x h'.1
    obtain ⟨a2, b2, c2, _⟩ := shs_ok xs h'.2
    refine ⟨by simp [toPs, PyData.showableAll, a, a2], ?_, fun t ht => ?_, trivial⟩
    · simp only [toPs, PyData.shownAll, PySem.piled_cons, D.wts]; omega
    · simp only [toPs, PyData.shownAll, List.mem_cons] at ht
      rcases ht with rfl | ht
      · exact c
      · exact c2 t ht
end
theorem t_repr (d : D) (c : Cells) (Q : QD) (E : QX) (h1 : d.ok = true) (h2 : d.sh = true) (h3 : d.wt ≤ 16777216) : wR (opBlt .repr [d] c) Q E = Q (.str (toP d).shown) c := by
  obtain ⟨a, b, _⟩ := sh_ok d h2
  unfold opBlt
  dsimp only
  rw [py_ok' h1]
  dsimp only
  rw [if_pos ⟨a, by unfold lim; omega⟩]
  rfl
/-- the same data are shown alike -/
theorem cn_shown (d : D) (c : Cells) (Q : QD) (E : QX) (h2 : d.sh = true) : wR (opCmp .NotEq (.str (toP d).shown) (.str (toP d).shown) c) Q E = Q (.bl false) c := by
  have h := (sh_ok d h2).2.2
  have ok : (D.str (toP d).shown).ok = true := by
    unfold D.ok D.fl D.dep
    simp [h]
  rw [c_ne, eqv_ok ok ok]
  show Q (.bl (!eqD _ _)) c = _
  simp [eqD]
theorem ce_shown (d : D) (c : Cells) (Q : QD) (E : QX) (h2 : d.sh = true) : wR (opCmp .Eq (.str (toP d).shown) (.str (toP d).shown) c) Q E = Q (.bl true) c := by
  have h := (sh_ok d h2).2.2
  have ok : (D.str (toP d).shown).ok = true := by
    unfold D.ok D.fl D.dep
    simp [h]
  rw [c_eq, eqv_ok ok ok]
  show Q (.bl (eqD _ _)) c = _
  simp [eqD]
/-! x[::-1] -/
def wRv (x : D) (c : Cells) (Q : QD) : Prop := match x with
  | .tup xs => Q (.tup xs.reverse) c
  | .ref n => (match c[n]? with
    | some (.lst xs) => Q (.ref c.length) (c ++ [.lst xs.reverse])
    | _ => False)
  | _ => False
theorem e_rv (Γ : Ctx) (a : IE) (ρ : Lo) (c : Cells) (Q : QD) (E : QX) : wR (dE Γ (.rv a) ρ c) Q E = wR (dE Γ a ρ c) (fun x c1 => wRv x c1 Q) E := by
  rw [dE, wR_bind]; congr 1; funext x c1
  unfold wRv
  cases x with
  | ref n => dsimp only; cases c1[n]? with
    | none => rfl
    | some u => cases u <;> rfl
  | _ => rfl
theorem rv_tup (xs : List D) (c : Cells) (Q : QD) : wRv (.tup xs) c Q = Q (.tup xs.reverse) c := rfl
theorem rv_2 (x y : D) (c : Cells) (Q : QD) : wRv (.tup [x, y]) c Q = Q (.tup [y, x]) c := rfl
end G
end

section
set_option linter.all false
set_option autoImplicit false
set_option maxRecDepth 20000
/-! LP: points and what is reckoned of them. -/
namespace G
open PySem (Str Operator CmpOp PyData)
structure Pn where
  x : Int
  y : Int
  w : Int
  deriving DecidableEq, Inhabited
def Pn.d (p : Pn) : D := .tup [.int p.x, .int p.y, .int p.w]
class Pn.Ok (p : Pn) : Prop where
  pt : Pt p.x p.y p.w
  sx : Sm 1000 p.x
  sy : Sm 1000 p.y
  sw : Sm 1000 p.w
instance (p : Pn) [h : Pn.Ok p] : Sm 1000 p.x := h.sx
instance (p : Pn) [h : Pn.Ok p] : Sm 1000 p.y := h.sy
instance (p : Pn) [h : Pn.Ok p] : Sm 1000 p.w := h.sw
theorem Pn.Ok.pos {p : Pn} (h : Pn.Ok p) : 0 < p.w := h.pt.pos
theorem Pn.d_inj {p q : Pn} : p.d = q.d ↔ p = q := by
  cases p; cases q; simp [Pn.d]
theorem Pn.nr (p : Pn) : p.d.nr = true := by simp [Pn.d, D.nr, D.nrs]
theorem Pn.ok_d (p : Pn) : p.d.ok = true := by simp [Pn.d, D.ok, D.fl, D.fls, D.dep, D.deps]
theorem Pn.it_d (p : Pn) : p.d.it = true := by simp [Pn.d, D.it, D.its]
theorem Pn.fls (ps : List Pn) : D.fls (ps.map Pn.d) = true := by
  induction ps with
  | nil => simp [D.fls]
  | cons p ps ih => simp [D.fls, ih, Pn.d, D.fl]
theorem Pn.deps (ps : List Pn) : D.deps (ps.map Pn.d) ≤ 1 := by
  induction ps with
  | nil => simp [D.deps]
  | cons p ps ih =>
    have : p.d.dep = 1 := by simp [Pn.d, D.dep, D.deps]
    simp only [List.map_cons, D.deps, this]
    omega
theorem Pn.nrs (ps : List Pn) : D.nrs (ps.map Pn.d) = true := D.nrs_map Pn.nr ps
/-- the point of three numbers -/
def mkP (x y w : Int) : Pn := ⟨m1 x y w, m2 x y w, m3 x y w⟩
theorem mkP_pt (x y : Int) {w : Int} (h : w ≠ 0) : Pt (mkP x y w).x (mkP x y w).y (mkP x y w).w := (m_ok x y h).pt
theorem mkP_eq {x y w x' y' w' : Int} (h : w ≠ 0) (h' : w' ≠ 0) (e1 : x * w' = x' * w) (e2 : y * w' = y' * w) : mkP x y w = mkP x' y' w' := by
  have a := m_ok x' y' h'
  have key : Mk x y w (m1 x' y' w') (m2 x' y' w') (m3 x' y' w') := ⟨a.pt, by
    have := a.ex
    refine Int.eq_of_mul_eq_mul_left h' ?_
    grind, by
    have := a.ey
    refine Int.eq_of_mul_eq_mul_left h' ?_
    grind⟩
  obtain ⟨q1, q2, q3⟩ := Mk.m_eq h key
  unfold mkP
  rw [q1, q2, q3]
theorem mkP_self {p : Pn} (h : Pt p.x p.y p.w) : mkP p.x p.y p.w = p := by
  obtain ⟨q1, q2, q3⟩ := h.m_self
  unfold mkP
  rw [q1, q2, q3]
theorem mkP_iff {x y w : Int} {p : Pn} (h : w ≠ 0) (hp : Pt p.x p.y p.w) : mkP x y w = p ↔ x * p.w = p.x * w ∧ y * p.w = p.y * w := by
  have hw : p.w ≠ 0 := by have := hp.pos; omega
  constructor
  · rintro rfl
    have a := m_ok x y h
    exact ⟨a.ex.symm, a.ey.symm⟩
  · rintro ⟨e1, e2⟩
    rw [← mkP_self hp]
    exact mkP_eq h hw e1 e2
theorem mkP_ok {x y w : Int} {a b d : Nat} [h1 : Sm a x] [h2 : Sm b y] [h3 : Sm d w] (hw : w ≠ 0) (ha : a ≤ 1000) (hb : b ≤ 1000) (hd : d ≤ 1000) : Pn.Ok (mkP x y w) :=
  ⟨mkP_pt x y hw, (inferInstance : Sm a (m1 x y w)).mono ha, (inferInstance : Sm b (m2 x y w)).mono hb, (inferInstance : Sm d (m3 x y w)).mono hd⟩
/-! ### rules -/
section
variable (p q : Pn) (c : Cells) (Q : QD) (E : QX)
theorem p_0 : wR (opIx p.d (.int 0) c) Q E = Q (.int p.x) c := rfl
theorem p_1 : wR (opIx p.d (.int 1) c) Q E = Q (.int p.y) c := rfl
theorem p_2 : wR (opIx p.d (.int 2) c) Q E = Q (.int p.w) c := rfl
theorem p_len : wR (opBlt .len [p.d] c) Q E = Q (.int 3) c := rfl
theorem p_eq : wR (opCmp .Eq p.d q.d c) Q E = Q (.bl (decide (p = q))) c := by
  rw [c_eq, eqv_ok (Pn.ok_d p) (Pn.ok_d q)]
  show Q (.bl (eqD p.d q.d)) c = _
  congr 2
  rw [Bool.eq_iff_iff, eqD_it _ _ (Pn.it_d p) (Pn.it_d q), Pn.d_inj]; simp
theorem p_ne : wR (opCmp .NotEq p.d q.d c) Q E = Q (.bl (!decide (p = q))) c := by
  rw [c_ne, eqv_ok (Pn.ok_d p) (Pn.ok_d q)]
  show Q (.bl (!eqD p.d q.d)) c = _
  congr 3
  rw [Bool.eq_iff_iff, eqD_it _ _ (Pn.it_d p) (Pn.it_d q), Pn.d_inj]; simp
theorem p_ty (P : String → Prop) : wTy (tyOf c p.d) P = P "tuple" := rfl
theorem p_items (P : List D × List Nat → Prop) : wP (itemsD c p.d) P = P ([.int p.x, .int p.y, .int p.w], []) := rfl
end
/-! ### numbers -/
section
variable {T : Tab} (k : Nat) (c : Cells)
theorem common_e (f : String) [hf : HasFn T f F.common] (a b : Int) : callD T (k + 1) f [.int a, .int b] c = .ok (.int (Int.gcd a b)) c := by
  refine eq_of fun Q E hQ => call_body (fn := F.common) hf.h rfl ?_
  unfold F.common
  show wS (dSs _ _ [some (.int a), some (.int b)] c) _
  simp only [ss_cons, ss_nil, s_set, s_ret, s_retN, s_expr, s_ife, s_raise, s_cnt, s_brk, s_pass, s_setIx, s_for, s_foS, s_augA, s_augS, e_k, e_v, e_tup, e_lst, e_call, e_blt, e_cmp, e_bin, e_neg, e_and, e_or, e_not, e_ite, e_chain, e_ix, e_isi, e_meth, e_sl, e_lam, e_lc, es_cons, es_nil, o_no, List.getElem?_cons_zero, List.getElem?_cons_succ, wO_some, asg_t, asgs_c, asgs_n, asg_v, Option.bind_some, Option.map_some, wA_some, wI_int, wB_some, wT_bl, wTy_some, wBs_some, wN_some, wP_some, wR_ok, List.length_cons, List.length_nil, List.set_cons_zero, List.set_cons_succ, lim, Nat.reduceAdd, Nat.reduceLeDiff, true_and, and_true, tr_bl, tr_int, tr_tup, tr_non, pick_some, pick_t, pick_f, decide_eq_true_eq, b_add, b_sub, b_subB, b_addB, b_mul, b_div, b_mod, b_pow, b_addT, b_mulT, c_eq, c_ne, c_lt, c_le, c_gt, c_ge, c_isB, c_isNotB, c_isN, c_isNotN, x_tup, a2_0, a2_1, a3_0, a3_1, a3_2, a4_0, a4_1, a4_2, a4_3, t_abs, t_int, t_intB, t_len, t_min, t_max, t_tupT, t_lstT, ty_non, ty_bl, ty_int, ty_str, ty_tup, is_ii, is_ib, is_bi, is_bb, is_tt, is_lt, is_it, is_nt, is_st, is_ni, is_si, is_ti, is_li, Bool.not_true, Bool.not_false, Bool.false_eq_true, if_true, if_false, abs_eq, i_v, i_tup, i_lst, i_call, i_ix, i_sl, it_tup, same_nil', lc_nil, lc_cons, oc_some, oc_none, w_lcB, fo_nil, fo_cons, ts_nil, ts_cons, t_all, t_any, t_tup, wipe, bls, q_ii, q_bb, q_2, q_3, BEq.rfl, beq_iff_eq, Int.reduceBEq, Int.reduceLT, Int.reduceLE, Int.reduceNeg, Int.reduceEq, List.all_cons, List.all_nil, id, Bool.and_true, Bool.true_and, Bool.and_self, Int.cast_ofNat_Int]
  refine s_whl (I := fun m ρ c' => ∃ x y : Nat, ρ = [some (.int x), some (.int y)] ∧ c' = c ∧ Nat.gcd x y = Int.gcd a b ∧ y = m) (m := b.natAbs) ⟨a.natAbs, b.natAbs, rfl, rfl, rfl, rfl⟩ ?_
  rintro m ρ c' ⟨x, y, rfl, rfl, hg, rfl⟩
  simp only [ss_cons, ss_nil, s_set, s_ret, s_retN, s_expr, s_ife, s_raise, s_cnt, s_brk, s_pass, s_setIx, s_for, s_foS, s_augA, s_augS, e_k, e_v, e_tup, e_lst, e_call, e_blt, e_cmp, e_bin, e_neg, e_and, e_or, e_not, e_ite, e_chain, e_ix, e_isi, e_meth, e_sl, e_lam, e_lc, es_cons, es_nil, o_no, List.getElem?_cons_zero, List.getElem?_cons_succ, wO_some, asg_t, asgs_c, asgs_n, asg_v, Option.bind_some, Option.map_some, wA_some, wI_int, wB_some, wT_bl, wTy_some, wBs_some, wN_some, wP_some, wR_ok, List.length_cons, List.length_nil, List.set_cons_zero, List.set_cons_succ, lim, Nat.reduceAdd, Nat.reduceLeDiff, true_and, and_true, tr_bl, tr_int, tr_tup, tr_non, pick_some, pick_t, pick_f, decide_eq_true_eq, b_add, b_sub, b_subB, b_addB, b_mul, b_div, b_mod, b_pow, b_addT, b_mulT, c_eq, c_ne, c_lt, c_le, c_gt, c_ge, c_isB, c_isNotB, c_isN, c_isNotN, x_tup, a2_0, a2_1, a3_0, a3_1, a3_2, a4_0, a4_1, a4_2, a4_3, t_abs, t_int, t_intB, t_len, t_min, t_max, t_tupT, t_lstT, ty_non, ty_bl, ty_int, ty_str, ty_tup, is_ii, is_ib, is_bi, is_bb, is_tt, is_lt, is_it, is_nt, is_st, is_ni, is_si, is_ti, is_li, Bool.not_true, Bool.not_false, Bool.false_eq_true, if_true, if_false, abs_eq, i_v, i_tup, i_lst, i_call, i_ix, i_sl, it_tup, same_nil', lc_nil, lc_cons, oc_some, oc_none, w_lcB, fo_nil, fo_cons, ts_nil, ts_cons, t_all, t_any, t_tup, wipe, bls, q_ii, q_bb, q_2, q_3, BEq.rfl, beq_iff_eq, Int.reduceBEq, Int.reduceLT, Int.reduceLE, Int.reduceNeg, Int.reduceEq, List.all_cons, List.all_nil, id, Bool.and_true, Bool.true_and, Bool.and_self, Int.cast_ofNat_Int]
  by_cases hy : (0 : Int) < y
  · rw [if_pos hy]
    refine ⟨hy, x % y, Nat.mod_lt _ (by omega), y, x % y, by simp, ?_, rfl⟩
    rw [← hg, Nat.gcd_comm y, ← Nat.gcd_rec, Nat.gcd_comm]
  · rw [if_neg hy]
    have : y = 0 := by omega
    subst this
    rw [Nat.gcd_zero_right] at hg
    rw [hg, gc_id]
    exact hQ
theorem fraction_e (f cm : String) [hf : HasFn T f (F.fraction cm)] [HasFn T cm F.common] (a b : Int) {n : Nat} [hs : Sm n b] (hn : n ≤ 8999) (hb : b ≠ 0) : callD T (k + 2) f [.int a, .int b] c = .ok (.tup [.int (fr1 a b), .int (fr2 a b)]) c := by
  refine eq_of fun Q E hQ => call_body (fn := F.fraction cm) hf.h rfl ?_
  unfold F.fraction
  show wS (dSs _ _ [some (.int a), some (.int b), none] c) _
  have hg : 0 < (Int.gcd a b : Int) := by have := Int.gcd_pos_of_ne_zero_right a hb; omega
  haveI := gcd_sm (a := a) hs hb
  have hl : ((Int.gcd a b : Int).natAbs.log2 < 9000) = True := log2_sm hn
  by_cases h : b < 0
  · simp only [ss_cons, ss_nil, s_set, s_ret, s_retN, s_expr, s_ife, s_raise, s_cnt, s_brk, s_pass, s_setIx, s_for, s_foS, s_augA, s_augS, e_k, e_v, e_tup, e_lst, e_call, e_blt, e_cmp, e_bin, e_neg, e_and, e_or, e_not, e_ite, e_chain, e_ix, e_isi, e_meth, e_sl, e_lam, e_lc, es_cons, es_nil, o_no, List.getElem?_cons_zero, List.getElem?_cons_succ, wO_some, asg_t, asgs_c, asgs_n, asg_v, Option.bind_some, Option.map_some, wA_some, wI_int, wB_some, wT_bl, wTy_some, wBs_some, wN_some, wP_some, wR_ok, List.length_cons, List.length_nil, List.set_cons_zero, List.set_cons_succ, lim, Nat.reduceAdd, Nat.reduceLeDiff, true_and, and_true, tr_bl, tr_int, tr_tup, tr_non, pick_some, pick_t, pick_f, decide_eq_true_eq, b_add, b_sub, b_subB, b_addB, b_mul, b_div, b_mod, b_pow, b_addT, b_mulT, c_eq, c_ne, c_lt, c_le, c_gt, c_ge, c_isB, c_isNotB, c_isN, c_isNotN, x_tup, a2_0, a2_1, a3_0, a3_1, a3_2, a4_0, a4_1, a4_2, a4_3, t_abs, t_int, t_intB, t_len, t_min, t_max, t_tupT, t_lstT, ty_non, ty_bl, ty_int, ty_str, ty_tup, is_ii, is_ib, is_bi, is_bb, is_tt, is_lt, is_it, is_nt, is_st, is_ni, is_si, is_ti, is_li, Bool.not_true, Bool.not_false, Bool.false_eq_true, if_true, if_false, abs_eq, i_v, i_tup, i_lst, i_call, i_ix, i_sl, it_tup, same_nil', lc_nil, lc_cons, oc_some, oc_none, w_lcB, fo_nil, fo_cons, ts_nil, ts_cons, t_all, t_any, t_tup, wipe, bls, q_ii, q_bb, q_2, q_3, BEq.rfl, beq_iff_eq, Int.reduceBEq, Int.reduceLT, Int.reduceLE, Int.reduceNeg, Int.reduceEq, List.all_cons, List.all_nil, id, Bool.and_true, Bool.true_and, Bool.and_self, Int.cast_ofNat_Int, h, common_e, Int.gcd_neg, Int.neg_gcd, hl, hg, gc_id]
    have e1 : fr1 a b = -a / Int.gcd a b := by unfold fr1 sg; rw [if_pos h]; simp
    have e2 : fr2 a b = -b / Int.gcd a b := by unfold fr2 sg; rw [if_pos h]; simp
    rw [← e1, ← e2]
    exact hQ
  · simp only [ss_cons, ss_nil, s_set, s_ret, s_retN, s_expr, s_ife, s_raise, s_cnt, s_brk, s_pass, s_setIx, s_for, s_foS, s_augA, s_augS, e_k, e_v, e_tup, e_lst, e_call, e_blt, e_cmp, e_bin, e_neg, e_and, e_or, e_not, e_ite, e_chain, e_ix, e_isi, e_meth, e_sl, e_lam, e_lc, es_cons, es_nil, o_no, List.getElem?_cons_zero, List.getElem?_cons_succ, wO_some, asg_t, asgs_c, asgs_n, asg_v, Option.bind_some, Option.map_some, wA_some, wI_int, wB_some, wT_bl, wTy_some, wBs_some, wN_some, wP_some, wR_ok, List.length_cons, List.length_nil, List.set_cons_zero, List.set_cons_succ, lim, Nat.reduceAdd, Nat.reduceLeDiff, true_and, and_true, tr_bl, tr_int, tr_tup, tr_non, pick_some, pick_t, pick_f, decide_eq_true_eq, b_add, b_sub, b_subB, b_addB, b_mul, b_div, b_mod, b_pow, b_addT, b_mulT, c_eq, c_ne, c_lt, c_le, c_gt, c_ge, c_isB, c_isNotB, c_isN, c_isNotN, x_tup, a2_0, a2_1, a3_0, a3_1, a3_2, a4_0, a4_1, a4_2, a4_3, t_abs, t_int, t_intB, t_len, t_min, t_max, t_tupT, t_lstT, ty_non, ty_bl, ty_int, ty_str, ty_tup, is_ii, is_ib, is_bi, is_bb, is_tt, is_lt, is_it, is_nt, is_st, is_ni, is_si, is_ti, is_li, Bool.not_true, Bool.not_false, Bool.false_eq_true, if_true, if_false, abs_eq, i_v, i_tup, i_lst, i_call, i_ix, i_sl, it_tup, same_nil', lc_nil, lc_cons, oc_some, oc_none, w_lcB, fo_nil, fo_cons, ts_nil, ts_cons, t_all, t_any, t_tup, wipe, bls, q_ii, q_bb, q_2, q_3, BEq.rfl, beq_iff_eq, Int.reduceBEq, Int.reduceLT, Int.reduceLE, Int.reduceNeg, Int.reduceEq, List.all_cons, List.all_nil, id, Bool.and_true, Bool.true_and, Bool.and_self, Int.cast_ofNat_Int, h, common_e, Int.gcd_neg, Int.neg_gcd, hl, hg, gc_id]
    have e1 : fr1 a b = a / Int.gcd a b := by unfold fr1 sg; rw [if_neg h]; simp
    have e2 : fr2 a b = b / Int.gcd a b := by unfold fr2 sg; rw [if_neg h]; simp
    rw [← e1, ← e2]
    exact hQ
theorem made_e (f cm : String) [hf : HasFn T f (F.made cm)] [HasFn T cm F.common] (x y w : Int) {n : Nat} [hs : Sm n w] (hn : n ≤ 8999) (hw : w ≠ 0) : callD T (k + 2) f [.int x, .int y, .int w] c = .ok (mkP x y w).d c := by
  refine eq_of fun Q E hQ => call_body (fn := F.made cm) hf.h rfl ?_
  unfold F.made
  show wS (dSs _ _ [some (.int x), some (.int y), some (.int w), none] c) _
  have hg : 0 < (Int.gcd (Int.gcd x y : Int) w : Int) := g3_pos hw
  haveI := gcd_sm (a := (Int.gcd x y : Int)) hs hw
  have hl : ((Int.gcd (Int.gcd x y : Int) w : Int).natAbs.log2 < 9000) = True := log2_sm hn
  unfold mkP Pn.d at hQ
  by_cases h : w < 0
  · simp only [ss_cons, ss_nil, s_set, s_ret, s_retN, s_expr, s_ife, s_raise, s_cnt, s_brk, s_pass, s_setIx, s_for, s_foS, s_augA, s_augS, e_k, e_v, e_tup, e_lst, e_call, e_blt, e_cmp, e_bin, e_neg, e_and, e_or, e_not, e_ite, e_chain, e_ix, e_isi, e_meth, e_sl, e_lam, e_lc, es_cons, es_nil, o_no, List.getElem?_cons_zero, List.getElem?_cons_succ, wO_some, asg_t, asgs_c, asgs_n, asg_v, Option.bind_some, Option.map_some, wA_some, wI_int, wB_some, wT_bl, wTy_some, wBs_some, wN_some, wP_some, wR_ok, List.length_cons, List.length_nil, List.set_cons_zero, List.set_cons_succ, lim, Nat.reduceAdd, Nat.reduceLeDiff, true_and, and_true, tr_bl, tr_int, tr_tup, tr_non, pick_some, pick_t, pick_f, decide_eq_true_eq, b_add, b_sub, b_subB, b_addB, b_mul, b_div, b_mod, b_pow, b_addT, b_mulT, c_eq, c_ne, c_lt, c_le, c_gt, c_ge, c_isB, c_isNotB, c_isN, c_isNotN, x_tup, a2_0, a2_1, a3_0, a3_1, a3_2, a4_0, a4_1, a4_2, a4_3, t_abs, t_int, t_intB, t_len, t_min, t_max, t_tupT, t_lstT, ty_non, ty_bl, ty_int, ty_str, ty_tup, is_ii, is_ib, is_bi, is_bb, is_tt, is_lt, is_it, is_nt, is_st, is_ni, is_si, is_ti, is_li, Bool.not_true, Bool.not_false, Bool.false_eq_true, if_true, if_false, abs_eq, i_v, i_tup, i_lst, i_call, i_ix, i_sl, it_tup, same_nil', lc_nil, lc_cons, oc_some, oc_none, w_lcB, fo_nil, fo_cons, ts_nil, ts_cons, t_all, t_any, t_tup, wipe, bls, q_ii, q_bb, q_2, q_3, BEq.rfl, beq_iff_eq, Int.reduceBEq, Int.reduceLT, Int.reduceLE, Int.reduceNeg, Int.reduceEq, List.all_cons, List.all_nil, id, Bool.and_true, Bool.true_and, Bool.and_self, Int.cast_ofNat_Int, h, common_e, Int.gcd_neg, Int.neg_gcd, hl, hg, gc_id]
    have e1 : m1 x y w = -x / Int.gcd (Int.gcd x y : Int) w := by unfold m1 sg g3; rw [if_pos h]; simp
    have e2 : m2 x y w = -y / Int.gcd (Int.gcd x y : Int) w := by unfold m2 sg g3; rw [if_pos h]; simp
    have e3 : m3 x y w = -w / Int.gcd (Int.gcd x y : Int) w := by unfold m3 sg g3; rw [if_pos h]; simp
    rw [← e1, ← e2, ← e3]
    exact hQ
  · simp only [ss_cons, ss_nil, s_set, s_ret, s_retN, s_expr, s_ife, s_raise, s_cnt, s_brk, s_pass, s_setIx, s_for, s_foS, s_augA, s_augS, e_k, e_v, e_tup, e_lst, e_call, e_blt, e_cmp, e_bin, e_neg, e_and, e_or, e_not, e_ite, e_chain, e_ix, e_isi, e_meth, e_sl, e_lam, e_lc, es_cons, es_nil, o_no, List.getElem?_cons_zero, List.getElem?_cons_succ, wO_some, asg_t, asgs_c, asgs_n, asg_v, Option.bind_some, Option.map_some, wA_some, wI_int, wB_some, wT_bl, wTy_some, wBs_some, wN_some, wP_some, wR_ok, List.length_cons, List.length_nil, List.set_cons_zero, List.set_cons_succ, lim, Nat.reduceAdd, Nat.reduceLeDiff, true_and, and_true, tr_bl, tr_int, tr_tup, tr_non, pick_some, pick_t, pick_f, decide_eq_true_eq, b_add, b_sub, b_subB, b_addB, b_mul, b_div, b_mod, b_pow, b_addT, b_mulT, c_eq, c_ne, c_lt, c_le, c_gt, c_ge, c_isB, c_isNotB, c_isN, c_isNotN, x_tup, a2_0, a2_1, a3_0, a3_1, a3_2, a4_0, a4_1, a4_2, a4_3, t_abs, t_int, t_intB, t_len, t_min, t_max, t_tupT, t_lstT, ty_non, ty_bl, ty_int, ty_str, ty_tup, is_ii, is_ib, is_bi, is_bb, is_tt, is_lt, is_it, is_nt, is_st, is_ni, is_si, is_ti, is_li, Bool.not_true, Bool.not_false, Bool.false_eq_true, if_true, if_false, abs_eq, i_v, i_tup, i_lst, i_call, i_ix, i_sl, it_tup, same_nil', lc_nil, lc_cons, oc_some, oc_none, w_lcB, fo_nil, fo_cons, ts_nil, ts_cons, t_all, t_any, t_tup, wipe, bls, q_ii, q_bb, q_2, q_3, BEq.rfl, beq_iff_eq, Int.reduceBEq, Int.reduceLT, Int.reduceLE, Int.reduceNeg, Int.reduceEq, List.all_cons, List.all_nil, id, Bool.and_true, Bool.true_and, Bool.and_self, Int.cast_ofNat_Int, h, common_e, Int.gcd_neg, Int.neg_gcd, hl, hg, gc_id]
    have e1 : m1 x y w = x / Int.gcd (Int.gcd x y : Int) w := by unfold m1 sg g3; rw [if_neg h]; simp
    have e2 : m2 x y w = y / Int.gcd (Int.gcd x y : Int) w := by unfold m2 sg g3; rw [if_neg h]; simp
    have e3 : m3 x y w = w / Int.gcd (Int.gcd x y : Int) w := by unfold m3 sg g3; rw [if_neg h]; simp
    rw [← e1, ← e2, ← e3]
    exact hQ
/-- whole numbers -/
def isI : D → Bool
  | .int _ => true
  | _ => false
theorem isnum_d [hf : HasFn T "is_number" F.is_number] (d : D) (h : (tyOf c d).isSome = true) : callD T (k + 1) "is_number" [d] c = .ok (.bl (isI d)) c := by
  refine eq_of fun Q E hQ => call_body (fn := F.is_number) hf.h rfl ?_
  unfold F.is_number
  show wS (dSs _ _ [some d] c) _
  cases d with
  | ref n =>
    have ht : ∃ t, (t = "list" ∨ t = "dict" ∨ t = "set") ∧ ∀ P : String → Prop, wTy (tyOf c (.ref n)) P = P t := by
      unfold tyOf at h ⊢
      dsimp only at h ⊢
      cases q : c[n]? with
      | none => rw [q] at h; cases h
      | some u => cases u with
        | lst _ => exact ⟨_, .inl rfl, fun _ => rfl⟩
        | frz _ => exact ⟨_, .inl rfl, fun _ => rfl⟩
        | dct _ => exact ⟨_, .inr (.inl rfl), fun _ => rfl⟩
        | set _ => exact ⟨_, .inr (.inr rfl), fun _ => rfl⟩
    obtain ⟨t, ht1, ht2⟩ := ht
    have hi : isTy t ["int"] = false := by rcases ht1 with rfl | rfl | rfl <;> decide
    simp only [↓ss_cons, ↓ss_nil, ↓s_set, ↓s_ret, ↓s_retN, ↓s_expr, ↓s_ife, ↓s_raise, ↓s_cnt, ↓s_brk, ↓s_pass, ↓s_setX, ↓s_for, ↓s_foS, ↓e_k, ↓e_tup, ↓e_lst, ↓e_call, ↓e_blt, ↓e_cmp, ↓e_bin, ↓e_neg, ↓e_and, ↓e_or, ↓e_not, ↓e_ite, ↓e_chain, ↓e_ix, ↓e_isi, ↓e_meth, ↓e_sl, ↓e_lam, ↓e_lc, ↓es_cons, ↓es_nil, ↓o_no, ↓b_add, ↓b_sub, ↓b_subB, ↓b_addB, ↓b_mul, ↓b_div, ↓b_mod, ↓b_pow, ↓b_addT, ↓b_mulT, ↓c_lt, ↓c_le, ↓c_gt, ↓c_ge, ↓c_isB, ↓c_isNotB, ↓c_isN, ↓c_isNotN, ↓t_abs, ↓t_int, ↓t_intB, ↓t_len, ↓t_min, ↓t_max, ↓t_tupT, ↓t_lstT, ↓i_v, ↓i_tup, ↓i_lst, ↓i_call, ↓i_ix, ↓i_sl, ↓lc_nil, ↓lc_cons, ↓w_lcB, ↓fo_nil, ↓fo_cons, ↓ts_nil, ↓ts_cons, ↓t_all, ↓t_any, ↓t_tup, ↓wI_int, ↓wR_ok, ↓v_0, ↓v_1, ↓v_2, ↓v_3, ↓v_4, ↓v_5, ↓v_6, ↓v_7, ↓v_8, ↓v_9, ↓v_10, ↓v_11, ↓v_12, ↓v_13, ↓v_14, ↓v_15, ↓v_16, ↓v_17, ↓v_18, ↓v_19, ↓v_20, ↓v_21, ↓v_22, ↓v_23, ↓v_24, ↓v_25, ↓v_26, ↓v_27, ↓v_28, ↓v_29, ↓v_30, ↓v_31, ↓as_0, ↓as_1, ↓as_2, ↓as_3, ↓as_4, ↓as_5, ↓as_6, ↓as_7, ↓as_8, ↓as_9, ↓as_10, ↓as_11, ↓as_12, ↓as_13, ↓as_14, ↓as_15, ↓as_16, ↓as_17, ↓as_18, ↓as_19, ↓as_20, ↓as_21, ↓as_22, ↓as_23, ↓as_24, ↓as_25, ↓as_26, ↓as_27, ↓as_28, ↓as_29, ↓as_30, ↓as_31, ↓as_t, ↓as_n, ↓as_c, ↓x1_0, ↓x2_0, ↓x2_1, ↓x3_0, ↓x3_1, ↓x3_2, ↓x4_0, ↓x4_1, ↓x4_2, ↓x4_3, ↓x5_0, ↓x5_1, ↓x5_2, ↓x5_3, ↓x5_4, ↓gc_id, ↓gc_bl, ↓gc_bl2, ↓gc_bl3, ↓gc_i, ↓gc_i2, ↓gc_n, ↓gc_n2, ↓gc_ex, ↓gc_ex0, ↓gc_ex2, ↓ce_ii, ↓ce_bb, ↓ce_2, ↓ce_3, ↓cn_ii, ↓cn_bb, ↓cn_2, ↓cn_3, ↓pk_bl, ↓pk_int, ↓pk_tn, ↓pk_tc, ↓pk_non, ↓nb_bl, ↓nb_int, ↓yt_non, ↓yt_bl, ↓yt_int, ↓yt_str, ↓yt_tup, ↓wp_tup, List.length_cons, List.length_nil, lim, Nat.reduceAdd, Nat.reduceLeDiff, true_and, and_true, is_ii, is_ib, is_bi, is_bb, is_tt, is_lt, is_it, is_nt, is_st, is_ni, is_si, is_ti, is_li, Bool.not_true, Bool.not_false, Bool.false_eq_true, if_true, if_false, abs_eq, Int.cast_ofNat_Int, BEq.rfl, beq_iff_eq, Int.reduceBEq, Int.reduceLT, Int.reduceLE, Int.reduceNeg, Int.reduceEq, List.all_cons, List.all_nil, id, Bool.and_true, Bool.true_and, Bool.and_self, same_nil', oc_some, oc_none, bls, wBs_some, wipe, Option.map_some, List.set_cons_zero, List.set_cons_succ, decide_true, decide_false, ↓reduceIte, decide_eq_true_eq, Bool.not_eq_true', ↓ht2, hi, gc_id]
    exact hQ
  | _ =>
    simp only [↓ss_cons, ↓ss_nil, ↓s_set, ↓s_ret, ↓s_retN, ↓s_expr, ↓s_ife, ↓s_raise, ↓s_cnt, ↓s_brk, ↓s_pass, ↓s_setX, ↓s_for, ↓s_foS, ↓e_k, ↓e_tup, ↓e_lst, ↓e_call, ↓e_blt, ↓e_cmp, ↓e_bin, ↓e_neg, ↓e_and, ↓e_or, ↓e_not, ↓e_ite, ↓e_chain, ↓e_ix, ↓e_isi, ↓e_meth, ↓e_sl, ↓e_lam, ↓e_lc, ↓es_cons, ↓es_nil, ↓o_no, ↓b_add, ↓b_sub, ↓b_subB, ↓b_addB, ↓b_mul, ↓b_div, ↓b_mod, ↓b_pow, ↓b_addT, ↓b_mulT, ↓c_lt, ↓c_le, ↓c_gt, ↓c_ge, ↓c_isB, ↓c_isNotB, ↓c_isN, ↓c_isNotN, ↓t_abs, ↓t_int, ↓t_intB, ↓t_len, ↓t_min, ↓t_max, ↓t_tupT, ↓t_lstT, ↓i_v, ↓i_tup, ↓i_lst, ↓i_call, ↓i_ix, ↓i_sl, ↓lc_nil, ↓lc_cons, ↓w_lcB, ↓fo_nil, ↓fo_cons, ↓ts_nil, ↓ts_cons, ↓t_all, ↓t_any, ↓t_tup, ↓wI_int, ↓wR_ok, ↓v_0, ↓v_1, ↓v_2, ↓v_3, ↓v_4, ↓v_5, ↓v_6, ↓v_7, ↓v_8, ↓v_9, ↓v_10, ↓v_11, ↓v_12, ↓v_13, ↓v_14, ↓v_15, ↓v_16, ↓v_17, ↓v_18, ↓v_19, ↓v_20, ↓v_21, ↓v_22, ↓v_23, ↓v_24, ↓v_25, ↓v_26, ↓v_27, ↓v_28, ↓v_29, ↓v_30, ↓v_31, ↓as_0, ↓as_1, ↓as_2, ↓as_3, ↓as_4, ↓as_5, ↓as_6, ↓as_7, ↓as_8, ↓as_9, ↓as_10, ↓as_11, ↓as_12, ↓as_13, ↓as_14, ↓as_15, ↓as_16, ↓as_17, ↓as_18, ↓as_19, ↓as_20, ↓as_21, ↓as_22, ↓as_23, ↓as_24, ↓as_25, ↓as_26, ↓as_27, ↓as_28, ↓as_29, ↓as_30, ↓as_31, ↓as_t, ↓as_n, ↓as_c, ↓x1_0, ↓x2_0, ↓x2_1, ↓x3_0, ↓x3_1, ↓x3_2, ↓x4_0, ↓x4_1, ↓x4_2, ↓x4_3, ↓x5_0, ↓x5_1, ↓x5_2, ↓x5_3, ↓x5_4, ↓gc_id, ↓gc_bl, ↓gc_bl2, ↓gc_bl3, ↓gc_i, ↓gc_i2, ↓gc_n, ↓gc_n2, ↓gc_ex, ↓gc_ex0, ↓gc_ex2, ↓ce_ii, ↓ce_bb, ↓ce_2, ↓ce_3, ↓cn_ii, ↓cn_bb, ↓cn_2, ↓cn_3, ↓pk_bl, ↓pk_int, ↓pk_tn, ↓pk_tc, ↓pk_non, ↓nb_bl, ↓nb_int, ↓yt_non, ↓yt_bl, ↓yt_int, ↓yt_str, ↓yt_tup, ↓wp_tup, List.length_cons, List.length_nil, lim, Nat.reduceAdd, Nat.reduceLeDiff, true_and, and_true, is_ii, is_ib, is_bi, is_bb, is_tt, is_lt, is_it, is_nt, is_st, is_ni, is_si, is_ti, is_li, Bool.not_true, Bool.not_false, Bool.false_eq_true, if_true, if_false, abs_eq, Int.cast_ofNat_Int, BEq.rfl, beq_iff_eq, Int.reduceBEq, Int.reduceLT, Int.reduceLE, Int.reduceNeg, Int.reduceEq, List.all_cons, List.all_nil, id, Bool.and_true, Bool.true_and, Bool.and_self, same_nil', oc_some, oc_none, bls, wBs_some, wipe, Option.map_some, List.set_cons_zero, List.set_cons_succ, decide_true, decide_false, ↓reduceIte, decide_eq_true_eq, Bool.not_eq_true', gc_id]
    exact hQ
theorem isnum_i [hf : HasFn T "is_number" F.is_number] (x : Int) : callD T (k + 1) "is_number" [.int x] c = .ok (.bl true) c := isnum_d k c (.int x) rfl
/-- points, by their data -/
def isPt : D → Bool
  | .tup [.int x, .int y, .int w] => decide (1 ≤ w) && decide (Int.gcd (Int.gcd x y : Int) w = 1)
  | _ => false
theorem isPt_d (p : Pn) : isPt p.d = true ↔ Pt p.x p.y p.w := by
  unfold Pn.d isPt
  simp only [Bool.and_eq_true, decide_eq_true_eq]
  exact ⟨fun h => ⟨by omega, by unfold g3; omega⟩, fun h => ⟨by have := h.pos; omega, by have := h.cop; unfold g3 at this; omega⟩⟩
theorem isPt_some {d : D} (h : isPt d = true) : ∃ p : Pn, d = p.d ∧ Pt p.x p.y p.w := by
  unfold isPt at h
  split at h
  · rename_i x y w
    exact ⟨⟨x, y, w⟩, rfl, (isPt_d ⟨x, y, w⟩).mp h⟩
  · cases h
/-- a value whose parts have types -/
def D.vals (c : Cells) : D → Prop
  | .tup xs => ∀ x ∈ xs, (tyOf c x).isSome = true
  | .ref n => (tyOf c (.ref n)).isSome = true
  | _ => True
end
end G
end

section
set_option linter.all false
set_option autoImplicit false
set_option maxRecDepth 20000
/-! LP2: points, as the program looks at them. -/
namespace G
open PySem (Str Operator CmpOp PyData)
section
variable {T : Tab} (k : Nat) (c : Cells) [hn : HasFn T "is_number" F.is_number] [hc : HasFn T "common" F.common] [hp : HasFn T "is_point" F.is_point]
theorem ispoint_e (d : D) (hd : d.vals c) : callD T (k + 2) "is_point" [d] c = .ok (.bl (isPt d)) c := by
  refine eq_of fun Q E hQ => call_body (fn := F.is_point) hp.h rfl ?_
  unfold F.is_point
  show wS (dSs _ _ [some d, none, none] c) _
  cases d with
  | tup xs =>
    by_cases hl : xs.length = 3
    · obtain ⟨a, b, w, rfl⟩ : ∃ a b w, xs = [a, b, w] := by
        match xs, hl with
        | [a, b, w], _ => exact ⟨a, b, w, rfl⟩
      have h1 := hd a (by simp)
      have h2 := hd b (by simp)
      have h3 := hd w (by simp)
      simp (decide := true) only [↓ss_cons, ↓ss_nil, ↓s_set, ↓s_ret, ↓s_retN, ↓s_expr, ↓s_ife, ↓s_raise, ↓s_cnt, ↓s_brk, ↓s_pass, ↓s_setX, ↓s_for, ↓s_foS, ↓e_k, ↓e_tup, ↓e_lst, ↓e_call, ↓e_blt, ↓e_cmp, ↓e_bin, ↓e_neg, ↓e_and, ↓e_or, ↓e_not, ↓e_ite, ↓e_chain, ↓e_ix, ↓e_isi, ↓e_meth, ↓e_sl, ↓e_lam, ↓e_lc, ↓es_cons, ↓es_nil, ↓o_no, ↓b_add, ↓b_sub, ↓b_subB, ↓b_addB, ↓b_mul, ↓b_div, ↓b_mod, ↓b_pow, ↓b_addT, ↓b_mulT, ↓c_lt, ↓c_le, ↓c_gt, ↓c_ge, ↓c_isB, ↓c_isNotB, ↓c_isN, ↓c_isNotN, ↓t_abs, ↓t_int, ↓t_intB, ↓t_len, ↓t_min, ↓t_max, ↓t_tupT, ↓t_lstT, ↓i_v, ↓i_tup, ↓i_lst, ↓i_call, ↓i_ix, ↓i_sl, ↓lc_nil, ↓lc_cons, ↓w_lcB, ↓fo_nil, ↓fo_cons, ↓ts_nil, ↓ts_cons, ↓t_all, ↓t_any, ↓t_tup, ↓wI_int, ↓wR_ok, ↓v_0, ↓v_1, ↓v_2, ↓v_3, ↓v_4, ↓v_5, ↓v_6, ↓v_7, ↓v_8, ↓v_9, ↓v_10, ↓v_11, ↓v_12, ↓v_13, ↓v_14, ↓v_15, ↓v_16, ↓v_17, ↓v_18, ↓v_19, ↓v_20, ↓v_21, ↓v_22, ↓v_23, ↓v_24, ↓v_25, ↓v_26, ↓v_27, ↓v_28, ↓v_29, ↓v_30, ↓v_31, ↓as_0, ↓as_1, ↓as_2, ↓as_3, ↓as_4, ↓as_5, ↓as_6, ↓as_7, ↓as_8, ↓as_9, ↓as_10, ↓as_11, ↓as_12, ↓as_13, ↓as_14, ↓as_15, ↓as_16, ↓as_17, ↓as_18, ↓as_19, ↓as_20, ↓as_21, ↓as_22, ↓as_23, ↓as_24, ↓as_25, ↓as_26, ↓as_27, ↓as_28, ↓as_29, ↓as_30, ↓as_31, ↓as_t, ↓as_n, ↓as_c, ↓x1_0, ↓x2_0, ↓x2_1, ↓x3_0, ↓x3_1, ↓x3_2, ↓x4_0, ↓x4_1, ↓x4_2, ↓x4_3, ↓x5_0, ↓x5_1, ↓x5_2, ↓x5_3, ↓x5_4, ↓gc_id, ↓gc_bl, ↓gc_bl2, ↓gc_bl3, ↓gc_i, ↓gc_i2, ↓gc_n, ↓gc_n2, ↓gc_ex, ↓gc_ex0, ↓gc_ex2, ↓ce_ii, ↓ce_bb, ↓ce_2, ↓ce_3, ↓cn_ii, ↓cn_bb, ↓cn_2, ↓cn_3, ↓pk_bl, ↓pk_int, ↓pk_tn, ↓pk_tc, ↓pk_non, ↓nb_bl, ↓nb_int, ↓yt_non, ↓yt_bl, ↓yt_int, ↓yt_str, ↓yt_tup, ↓wp_tup, List.length_cons, List.length_nil, lim, Nat.reduceAdd, Nat.reduceLeDiff, true_and, and_true, is_ii, is_ib, is_bi, is_bb, is_tt, is_lt, is_it, is_nt, is_st, is_ni, is_si, is_ti, is_li, Bool.not_true, Bool.not_false, Bool.false_eq_true, if_true, if_false, abs_eq, Int.cast_ofNat_Int, BEq.rfl, beq_iff_eq, Int.reduceBEq, Int.reduceLT, Int.reduceLE, Int.reduceNeg, Int.reduceEq, List.all_cons, List.all_nil, id, Bool.and_true, Bool.true_and, Bool.and_self, same_nil', oc_some, oc_none, bls, wBs_some, wipe, Option.map_some, List.set_cons_zero, List.set_cons_succ, decide_true, decide_false, ↓reduceIte, decide_eq_true_eq, Bool.not_eq_true', ↓w_of _ _ (isnum_d _ _ a h1), ↓w_of _ _ (isnum_d _ _ b h2), ↓w_of _ _ (isnum_d _ _ w h3)]
      cases a with
      | int x =>
        cases b with
        | int y =>
          cases w with
          | int z =>
            simp (decide := true) only [↓ss_cons, ↓ss_nil, ↓s_set, ↓s_ret, ↓s_retN, ↓s_expr, ↓s_ife, ↓s_raise, ↓s_cnt, ↓s_brk, ↓s_pass, ↓s_setX, ↓s_for, ↓s_foS, ↓e_k, ↓e_tup, ↓e_lst, ↓e_call, ↓e_blt, ↓e_cmp, ↓e_bin, ↓e_neg, ↓e_and, ↓e_or, ↓e_not, ↓e_ite, ↓e_chain, ↓e_ix, ↓e_isi, ↓e_meth, ↓e_sl, ↓e_lam, ↓e_lc, ↓es_cons, ↓es_nil, ↓o_no, ↓b_add, ↓b_sub, ↓b_subB, ↓b_addB, ↓b_mul, ↓b_div, ↓b_mod, ↓b_pow, ↓b_addT, ↓b_mulT, ↓c_lt, ↓c_le, ↓c_gt, ↓c_ge, ↓c_isB, ↓c_isNotB, ↓c_isN, ↓c_isNotN, ↓t_abs, ↓t_int, ↓t_intB, ↓t_len, ↓t_min, ↓t_max, ↓t_tupT, ↓t_lstT, ↓i_v, ↓i_tup, ↓i_lst, ↓i_call, ↓i_ix, ↓i_sl, ↓lc_nil, ↓lc_cons, ↓w_lcB, ↓fo_nil, ↓fo_cons, ↓ts_nil, ↓ts_cons, ↓t_all, ↓t_any, ↓t_tup, ↓wI_int, ↓wR_ok, ↓v_0, ↓v_1, ↓v_2, ↓v_3, ↓v_4, ↓v_5, ↓v_6, ↓v_7, ↓v_8, ↓v_9, ↓v_10, ↓v_11, ↓v_12, ↓v_13, ↓v_14, ↓v_15, ↓v_16, ↓v_17, ↓v_18, ↓v_19, ↓v_20, ↓v_21, ↓v_22, ↓v_23, ↓v_24, ↓v_25, ↓v_26, ↓v_27, ↓v_28, ↓v_29, ↓v_30, ↓v_31, ↓as_0, ↓as_1, ↓as_2, ↓as_3, ↓as_4, ↓as_5, ↓as_6, ↓as_7, ↓as_8, ↓as_9, ↓as_10, ↓as_11, ↓as_12, ↓as_13, ↓as_14, ↓as_15, ↓as_16, ↓as_17, ↓as_18, ↓as_19, ↓as_20, ↓as_21, ↓as_22, ↓as_23, ↓as_24, ↓as_25, ↓as_26, ↓as_27, ↓as_28, ↓as_29, ↓as_30, ↓as_31, ↓as_t, ↓as_n, ↓as_c, ↓x1_0, ↓x2_0, ↓x2_1, ↓x3_0, ↓x3_1, ↓x3_2, ↓x4_0, ↓x4_1, ↓x4_2, ↓x4_3, ↓x5_0, ↓x5_1, ↓x5_2, ↓x5_3, ↓x5_4, ↓gc_id, ↓gc_bl, ↓gc_bl2, ↓gc_bl3, ↓gc_i, ↓gc_i2, ↓gc_n, ↓gc_n2, ↓gc_ex, ↓gc_ex0, ↓gc_ex2, ↓ce_ii, ↓ce_bb, ↓ce_2, ↓ce_3, ↓cn_ii, ↓cn_bb, ↓cn_2, ↓cn_3, ↓pk_bl, ↓pk_int, ↓pk_tn, ↓pk_tc, ↓pk_non, ↓nb_bl, ↓nb_int, ↓yt_non, ↓yt_bl, ↓yt_int, ↓yt_str, ↓yt_tup, ↓wp_tup, List.length_cons, List.length_nil, lim, Nat.reduceAdd, Nat.reduceLeDiff, true_and, and_true, is_ii, is_ib, is_bi, is_bb, is_tt, is_lt, is_it, is_nt, is_st, is_ni, is_si, is_ti, is_li, Bool.not_true, Bool.not_false, Bool.false_eq_true, if_true, if_false, abs_eq, Int.cast_ofNat_Int, BEq.rfl, beq_iff_eq, Int.reduceBEq, Int.reduceLT, Int.reduceLE, Int.reduceNeg, Int.reduceEq, List.all_cons, List.all_nil, id, Bool.and_true, Bool.true_and, Bool.and_self, same_nil', oc_some, oc_none, bls, wBs_some, wipe, Option.map_some, List.set_cons_zero, List.set_cons_succ, decide_true, decide_false, ↓reduceIte, decide_eq_true_eq, Bool.not_eq_true', isI, ↓w_of _ _ (common_e _ _ "common" _ _), Bool.true_and]
            unfold isPt at hQ
            by_cases h : 1 ≤ z
            · rw [if_pos h]
              have : ((Int.gcd (Int.gcd x y : Int) z : Int) == 1) = decide (Int.gcd (Int.gcd x y : Int) z = 1) := by
                rw [Bool.eq_iff_iff]; simp; omega
              rw [this]
              simpa [h] using hQ
            · rw [if_neg h]
              simpa [h] using hQ
          | _ => simp (decide := true) only [↓ss_cons, ↓ss_nil, ↓s_set, ↓s_ret, ↓s_retN, ↓s_expr, ↓s_ife, ↓s_raise, ↓s_cnt, ↓s_brk, ↓s_pass, ↓s_setX, ↓s_for, ↓s_foS, ↓e_k, ↓e_tup, ↓e_lst, ↓e_call, ↓e_blt, ↓e_cmp, ↓e_bin, ↓e_neg, ↓e_and, ↓e_or, ↓e_not, ↓e_ite, ↓e_chain, ↓e_ix, ↓e_isi, ↓e_meth, ↓e_sl, ↓e_lam, ↓e_lc, ↓es_cons, ↓es_nil, ↓o_no, ↓b_add, ↓b_sub, ↓b_subB, ↓b_addB, ↓b_mul, ↓b_div, ↓b_mod, ↓b_pow, ↓b_addT, ↓b_mulT, ↓c_lt, ↓c_le, ↓c_gt, ↓c_ge, ↓c_isB, ↓c_isNotB, ↓c_isN, ↓c_isNotN, ↓t_abs, ↓t_int, ↓t_intB, ↓t_len, ↓t_min, ↓t_max, ↓t_tupT, ↓t_lstT, ↓i_v, ↓i_tup, ↓i_lst, ↓i_call, ↓i_ix, ↓i_sl, ↓lc_nil, ↓lc_cons, ↓w_lcB, ↓fo_nil, ↓fo_cons, ↓ts_nil, ↓ts_cons, ↓t_all, ↓t_any, ↓t_tup, ↓wI_int, ↓wR_ok, ↓v_0, ↓v_1, ↓v_2, ↓v_3, ↓v_4, ↓v_5, ↓v_6, ↓v_7, ↓v_8, ↓v_9, ↓v_10, ↓v_11, ↓v_12, ↓v_13, ↓v_14, ↓v_15, ↓v_16, ↓v_17, ↓v_18, ↓v_19, ↓v_20, ↓v_21, ↓v_22, ↓v_23, ↓v_24, ↓v_25, ↓v_26, ↓v_27, ↓v_28, ↓v_29, ↓v_30, ↓v_31, ↓as_0, ↓as_1, ↓as_2, ↓as_3, ↓as_4, ↓as_5, ↓as_6, ↓as_7, ↓as_8, ↓as_9, ↓as_10, ↓as_11, ↓as_12, ↓as_13, ↓as_14, ↓as_15, ↓as_16, ↓as_17, ↓as_18, ↓as_19, ↓as_20, ↓as_21, ↓as_22, ↓as_23, ↓as_24, ↓as_25, ↓as_26, ↓as_27, ↓as_28, ↓as_29, ↓as_30, ↓as_31, ↓as_t, ↓as_n, ↓as_c, ↓x1_0, ↓x2_0, ↓x2_1, ↓x3_0, ↓x3_1, ↓x3_2, ↓x4_0, ↓x4_1, ↓x4_2, ↓x4_3, ↓x5_0, ↓x5_1, ↓x5_2, ↓x5_3, ↓x5_4, ↓gc_id, ↓gc_bl, ↓gc_bl2, ↓gc_bl3, ↓gc_i, ↓gc_i2, ↓gc_n, ↓gc_n2, ↓gc_ex, ↓gc_ex0, ↓gc_ex2, ↓ce_ii, ↓ce_bb, ↓ce_2, ↓ce_3, ↓cn_ii, ↓cn_bb, ↓cn_2, ↓cn_3, ↓pk_bl, ↓pk_int, ↓pk_tn, ↓pk_tc, ↓pk_non, ↓nb_bl, ↓nb_int, ↓yt_non, ↓yt_bl, ↓yt_int, ↓yt_str, ↓yt_tup, ↓wp_tup, List.length_cons, List.length_nil, lim, Nat.reduceAdd, Nat.reduceLeDiff, true_and, and_true, is_ii, is_ib, is_bi, is_bb, is_tt, is_lt, is_it, is_nt, is_st, is_ni, is_si, is_ti, is_li, Bool.not_true, Bool.not_false, Bool.false_eq_true, if_true, if_false, abs_eq, Int.cast_ofNat_Int, BEq.rfl, beq_iff_eq, Int.reduceBEq, Int.reduceLT, Int.reduceLE, Int.reduceNeg, Int.reduceEq, List.all_cons, List.all_nil, id, Bool.and_true, Bool.true_and, Bool.and_self, same_nil', oc_some, oc_none, bls, wBs_some, wipe, Option.map_some, List.set_cons_zero, List.set_cons_succ, decide_true, decide_false, ↓reduceIte, decide_eq_true_eq, Bool.not_eq_true', isI, Bool.false_and, Bool.and_false]; exact hQ
        | _ => simp (decide := true) only [↓ss_cons, ↓ss_nil, ↓s_set, ↓s_ret, ↓s_retN, ↓s_expr, ↓s_ife, ↓s_raise, ↓s_cnt, ↓s_brk, ↓s_pass, ↓s_setX, ↓s_for, ↓s_foS, ↓e_k, ↓e_tup, ↓e_lst, ↓e_call, ↓e_blt, ↓e_cmp, ↓e_bin, ↓e_neg, ↓e_and, ↓e_or, ↓e_not, ↓e_ite, ↓e_chain, ↓e_ix, ↓e_isi, ↓e_meth, ↓e_sl, ↓e_lam, ↓e_lc, ↓es_cons, ↓es_nil, ↓o_no, ↓b_add, ↓b_sub, ↓b_subB, ↓b_addB, ↓b_mul, ↓b_div, ↓b_mod, ↓b_pow, ↓b_addT, ↓b_mulT, ↓c_lt, ↓c_le, ↓c_gt, ↓c_ge, ↓c_isB, ↓c_isNotB, ↓c_isN, ↓c_isNotN, ↓t_abs, ↓t_int, ↓t_intB, ↓t_len, ↓t_min, ↓t_max, ↓t_tupT, ↓t_lstT, ↓i_v, ↓i_tup, ↓i_lst, ↓i_call, ↓i_ix, ↓i_sl, ↓lc_nil, ↓lc_cons, ↓w_lcB, ↓fo_nil, ↓fo_cons, ↓ts_nil, ↓ts_cons, ↓t_all, ↓t_any, ↓t_tup, ↓wI_int, ↓wR_ok, ↓v_0, ↓v_1, ↓v_2, ↓v_3, ↓v_4, ↓v_5, ↓v_6, ↓v_7, ↓v_8, ↓v_9, ↓v_10, ↓v_11, ↓v_12, ↓v_13, ↓v_14, ↓v_15, ↓v_16, ↓v_17, ↓v_18, ↓v_19, ↓v_20, ↓v_21, ↓v_22, ↓v_23, ↓v_24, ↓v_25, ↓v_26, ↓v_27, ↓v_28, ↓v_29, ↓v_30, ↓v_31, ↓as_0, ↓as_1, ↓as_2, ↓as_3, ↓as_4, ↓as_5, ↓as_6, ↓as_7, ↓as_8, ↓as_9, ↓as_10, ↓as_11, ↓as_12, ↓as_13, ↓as_14, ↓as_15, ↓as_16, ↓as_17, ↓as_18, ↓as_19, ↓as_20, ↓as_21, ↓as_22, ↓as_23, ↓as_24, ↓as_25, ↓as_26, ↓as_27, ↓as_28, ↓as_29, ↓as_30, ↓as_31, ↓as_t, ↓as_n, ↓as_c, ↓x1_0, ↓x2_0, ↓x2_1, ↓x3_0, ↓x3_1, ↓x3_2, ↓x4_0, ↓x4_1, ↓x4_2, ↓x4_3, ↓x5_0, ↓x5_1, ↓x5_2, ↓x5_3, ↓x5_4, ↓gc_id, ↓gc_bl, ↓gc_bl2, ↓gc_bl3, ↓gc_i, ↓gc_i2, ↓gc_n, ↓gc_n2, ↓gc_ex, ↓gc_ex0, ↓gc_ex2, ↓ce_ii, ↓ce_bb, ↓ce_2, ↓ce_3, ↓cn_ii, ↓cn_bb, ↓cn_2, ↓cn_3, ↓pk_bl, ↓pk_int, ↓pk_tn, ↓pk_tc, ↓pk_non, ↓nb_bl, ↓nb_int, ↓yt_non, ↓yt_bl, ↓yt_int, ↓yt_str, ↓yt_tup, ↓wp_tup, List.length_cons, List.length_nil, lim, Nat.reduceAdd, Nat.reduceLeDiff, true_and, and_true, is_ii, is_ib, is_bi, is_bb, is_tt, is_lt, is_it, is_nt, is_st, is_ni, is_si, is_ti, is_li, Bool.not_true, Bool.not_false, Bool.false_eq_true, if_true, if_false, abs_eq, Int.cast_ofNat_Int, BEq.rfl, beq_iff_eq, Int.reduceBEq, Int.reduceLT, Int.reduceLE, Int.reduceNeg, Int.reduceEq, List.all_cons, List.all_nil, id, Bool.and_true, Bool.true_and, Bool.and_self, same_nil', oc_some, oc_none, bls, wBs_some, wipe, Option.map_some, List.set_cons_zero, List.set_cons_succ, decide_true, decide_false, ↓reduceIte, decide_eq_true_eq, Bool.not_eq_true', isI, Bool.false_and, Bool.and_false]; exact hQ
      | _ => simp (decide := true) only [↓ss_cons, ↓ss_nil, ↓s_set, ↓s_ret, ↓s_retN, ↓s_expr, ↓s_ife, ↓s_raise, ↓s_cnt, ↓s_brk, ↓s_pass, ↓s_setX, ↓s_for, ↓s_foS, ↓e_k, ↓e_tup, ↓e_lst, ↓e_call, ↓e_blt, ↓e_cmp, ↓e_bin, ↓e_neg, ↓e_and, ↓e_or, ↓e_not, ↓e_ite, ↓e_chain, ↓e_ix, ↓e_isi, ↓e_meth, ↓e_sl, ↓e_lam, ↓e_lc, ↓es_cons, ↓es_nil, ↓o_no, ↓b_add, ↓b_sub, ↓b_subB, ↓b_addB, ↓b_mul, ↓b_div, ↓b_mod, ↓b_pow, ↓b_addT, ↓b_mulT, ↓c_lt, ↓c_le, ↓c_gt, ↓c_ge, ↓c_isB, ↓c_isNotB, ↓c_isN, ↓c_isNotN, ↓t_abs, ↓t_int, ↓t_intB, ↓t_len, ↓t_min, ↓t_max, ↓t_tupT, ↓t_lstT, ↓i_v, ↓i_tup, ↓i_lst, ↓i_call, ↓i_ix, ↓i_sl, ↓lc_nil, ↓lc_cons, ↓w_lcB, ↓fo_nil, ↓fo_cons, ↓ts_nil, ↓ts_cons, ↓t_all, ↓t_any, ↓t_tup, ↓wI_int, ↓wR_ok, ↓v_0, ↓v_1, ↓v_2, ↓v_3, ↓v_4, ↓v_5, ↓v_6, ↓v_7, ↓v_8, ↓v_9, ↓v_10, ↓v_11, ↓v_12, ↓v_13, ↓v_14, ↓v_15, ↓v_16, ↓v_17, ↓v_18, ↓v_19, ↓v_20, ↓v_21, ↓v_22, ↓v_23, ↓v_24, ↓v_25, ↓v_26, ↓v_27, ↓v_28, ↓v_29, ↓v_30, ↓v_31, ↓as_0, ↓as_1, ↓as_2, ↓as_3, ↓as_4, ↓as_5, ↓as_6, ↓as_7, ↓as_8, ↓as_9, ↓as_10, ↓as_11, ↓as_12, ↓as_13, ↓as_14, ↓as_15, ↓as_16, ↓as_17, ↓as_18, ↓as_19, ↓as_20, ↓as_21, ↓as_22, ↓as_23, ↓as_24, ↓as_25, ↓as_26, ↓as_27, ↓as_28, ↓as_29, ↓as_30, ↓as_31, ↓as_t, ↓as_n, ↓as_c, ↓x1_0, ↓x2_0, ↓x2_1, ↓x3_0, ↓x3_1, ↓x3_2, ↓x4_0, ↓x4_1, ↓x4_2, ↓x4_3, ↓x5_0, ↓x5_1, ↓x5_2, ↓x5_3, ↓x5_4, ↓gc_id, ↓gc_bl, ↓gc_bl2, ↓gc_bl3, ↓gc_i, ↓gc_i2, ↓gc_n, ↓gc_n2, ↓gc_ex, ↓gc_ex0, ↓gc_ex2, ↓ce_ii, ↓ce_bb, ↓ce_2, ↓ce_3, ↓cn_ii, ↓cn_bb, ↓cn_2, ↓cn_3, ↓pk_bl, ↓pk_int, ↓pk_tn, ↓pk_tc, ↓pk_non, ↓nb_bl, ↓nb_int, ↓yt_non, ↓yt_bl, ↓yt_int, ↓yt_str, ↓yt_tup, ↓wp_tup, List.length_cons, List.length_nil, lim, Nat.reduceAdd, Nat.reduceLeDiff, true_and, and_true, is_ii, is_ib, is_bi, is_bb, is_tt, is_lt, is_it, is_nt, is_st, is_ni, is_si, is_ti, is_li, Bool.not_true, Bool.not_false, Bool.false_eq_true, if_true, if_false, abs_eq, Int.cast_ofNat_Int, BEq.rfl, beq_iff_eq, Int.reduceBEq, Int.reduceLT, Int.reduceLE, Int.reduceNeg, Int.reduceEq, List.all_cons, List.all_nil, id, Bool.and_true, Bool.true_and, Bool.and_self, same_nil', oc_some, oc_none, bls, wBs_some, wipe, Option.map_some, List.set_cons_zero, List.set_cons_succ, decide_true, decide_false, ↓reduceIte, decide_eq_true_eq, Bool.not_eq_true', isI, Bool.false_and, Bool.and_false]; exact hQ
    · have e : isPt (.tup xs) = false := by
        unfold isPt
        split
        · rename_i x y w h; cases h; exact absurd rfl hl
        · rfl
      have h' : ((xs.length : Int) == 3) = false := by simp; omega
      rw [e] at hQ
      simp (decide := true) only [↓ss_cons, ↓ss_nil, ↓s_set, ↓s_ret, ↓s_retN, ↓s_expr, ↓s_ife, ↓s_raise, ↓s_cnt, ↓s_brk, ↓s_pass, ↓s_setX, ↓s_for, ↓s_foS, ↓e_k, ↓e_tup, ↓e_lst, ↓e_call, ↓e_blt, ↓e_cmp, ↓e_bin, ↓e_neg, ↓e_and, ↓e_or, ↓e_not, ↓e_ite, ↓e_chain, ↓e_ix, ↓e_isi, ↓e_meth, ↓e_sl, ↓e_lam, ↓e_lc, ↓es_cons, ↓es_nil, ↓o_no, ↓b_add, ↓b_sub, ↓b_subB, ↓b_addB, ↓b_mul, ↓b_div, ↓b_mod, ↓b_pow, ↓b_addT, ↓b_mulT, ↓c_lt, ↓c_le, ↓c_gt, ↓c_ge, ↓c_isB, ↓c_isNotB, ↓c_isN, ↓c_isNotN, ↓t_abs, ↓t_int, ↓t_intB, ↓t_len, ↓t_min, ↓t_max, ↓t_tupT, ↓t_lstT, ↓i_v, ↓i_tup, ↓i_lst, ↓i_call, ↓i_ix, ↓i_sl, ↓lc_nil, ↓lc_cons, ↓w_lcB, ↓fo_nil, ↓fo_cons, ↓ts_nil, ↓ts_cons, ↓t_all, ↓t_any, ↓t_tup, ↓wI_int, ↓wR_ok, ↓v_0, ↓v_1, ↓v_2, ↓v_3, ↓v_4, ↓v_5, ↓v_6, ↓v_7, ↓v_8, ↓v_9, ↓v_10, ↓v_11, ↓v_12, ↓v_13, ↓v_14, ↓v_15, ↓v_16, ↓v_17, ↓v_18, ↓v_19, ↓v_20, ↓v_21, ↓v_22, ↓v_23, ↓v_24, ↓v_25, ↓v_26, ↓v_27, ↓v_28, ↓v_29, ↓v_30, ↓v_31, ↓as_0, ↓as_1, ↓as_2, ↓as_3, ↓as_4, ↓as_5, ↓as_6, ↓as_7, ↓as_8, ↓as_9, ↓as_10, ↓as_11, ↓as_12, ↓as_13, ↓as_14, ↓as_15, ↓as_16, ↓as_17, ↓as_18, ↓as_19, ↓as_20, ↓as_21, ↓as_22, ↓as_23, ↓as_24, ↓as_25, ↓as_26, ↓as_27, ↓as_28, ↓as_29, ↓as_30, ↓as_31, ↓as_t, ↓as_n, ↓as_c, ↓x1_0, ↓x2_0, ↓x2_1, ↓x3_0, ↓x3_1, ↓x3_2, ↓x4_0, ↓x4_1, ↓x4_2, ↓x4_3, ↓x5_0, ↓x5_1, ↓x5_2, ↓x5_3, ↓x5_4, ↓gc_id, ↓gc_bl, ↓gc_bl2, ↓gc_bl3, ↓gc_i, ↓gc_i2, ↓gc_n, ↓gc_n2, ↓gc_ex, ↓gc_ex0, ↓gc_ex2, ↓ce_ii, ↓ce_bb, ↓ce_2, ↓ce_3, ↓cn_ii, ↓cn_bb, ↓cn_2, ↓cn_3, ↓pk_bl, ↓pk_int, ↓pk_tn, ↓pk_tc, ↓pk_non, ↓nb_bl, ↓nb_int, ↓yt_non, ↓yt_bl, ↓yt_int, ↓yt_str, ↓yt_tup, ↓wp_tup, List.length_cons, List.length_nil, lim, Nat.reduceAdd, Nat.reduceLeDiff, true_and, and_true, is_ii, is_ib, is_bi, is_bb, is_tt, is_lt, is_it, is_nt, is_st, is_ni, is_si, is_ti, is_li, Bool.not_true, Bool.not_false, Bool.false_eq_true, if_true, if_false, abs_eq, Int.cast_ofNat_Int, BEq.rfl, beq_iff_eq, Int.reduceBEq, Int.reduceLT, Int.reduceLE, Int.reduceNeg, Int.reduceEq, List.all_cons, List.all_nil, id, Bool.and_true, Bool.true_and, Bool.and_self, same_nil', oc_some, oc_none, bls, wBs_some, wipe, Option.map_some, List.set_cons_zero, List.set_cons_succ, decide_true, decide_false, ↓reduceIte, decide_eq_true_eq, Bool.not_eq_true', h']
      exact hQ
  | ref n =>
    have ht : ∃ t, (t = "list" ∨ t = "dict" ∨ t = "set") ∧ ∀ P : String → Prop, wTy (tyOf c (.ref n)) P = P t := by
      have h : (tyOf c (.ref n)).isSome = true := hd
      unfold tyOf at h ⊢
      dsimp only at h ⊢
      cases q : c[n]? with
      | none => rw [q] at h; cases h
      | some u => cases u with
        | lst _ => exact ⟨_, .inl rfl, fun _ => rfl⟩
        | frz _ => exact ⟨_, .inl rfl, fun _ => rfl⟩
        | dct _ => exact ⟨_, .inr (.inl rfl), fun _ => rfl⟩
        | set _ => exact ⟨_, .inr (.inr rfl), fun _ => rfl⟩
    obtain ⟨t, ht1, ht2⟩ := ht
    have hi : isTy t ["tuple"] = false := by rcases ht1 with rfl | rfl | rfl <;> decide
    simp (decide := true) only [↓ss_cons, ↓ss_nil, ↓s_set, ↓s_ret, ↓s_retN, ↓s_expr, ↓s_ife, ↓s_raise, ↓s_cnt, ↓s_brk, ↓s_pass, ↓s_setX, ↓s_for, ↓s_foS, ↓e_k, ↓e_tup, ↓e_lst, ↓e_call, ↓e_blt, ↓e_cmp, ↓e_bin, ↓e_neg, ↓e_and, ↓e_or, ↓e_not, ↓e_ite, ↓e_chain, ↓e_ix, ↓e_isi, ↓e_meth, ↓e_sl, ↓e_lam, ↓e_lc, ↓es_cons, ↓es_nil, ↓o_no, ↓b_add, ↓b_sub, ↓b_subB, ↓b_addB, ↓b_mul, ↓b_div, ↓b_mod, ↓b_pow, ↓b_addT, ↓b_mulT, ↓c_lt, ↓c_le, ↓c_gt, ↓c_ge, ↓c_isB, ↓c_isNotB, ↓c_isN, ↓c_isNotN, ↓t_abs, ↓t_int, ↓t_intB, ↓t_len, ↓t_min, ↓t_max, ↓t_tupT, ↓t_lstT, ↓i_v, ↓i_tup, ↓i_lst, ↓i_call, ↓i_ix, ↓i_sl, ↓lc_nil, ↓lc_cons, ↓w_lcB, ↓fo_nil, ↓fo_cons, ↓ts_nil, ↓ts_cons, ↓t_all, ↓t_any, ↓t_tup, ↓wI_int, ↓wR_ok, ↓v_0, ↓v_1, ↓v_2, ↓v_3, ↓v_4, ↓v_5, ↓v_6, ↓v_7, ↓v_8, ↓v_9, ↓v_10, ↓v_11, ↓v_12, ↓v_13, ↓v_14, ↓v_15, ↓v_16, ↓v_17, ↓v_18, ↓v_19, ↓v_20, ↓v_21, ↓v_22, ↓v_23, ↓v_24, ↓v_25, ↓v_26, ↓v_27, ↓v_28, ↓v_29, ↓v_30, ↓v_31, ↓as_0, ↓as_1, ↓as_2, ↓as_3, ↓as_4, ↓as_5, ↓as_6, ↓as_7, ↓as_8, ↓as_9, ↓as_10, ↓as_11, ↓as_12, ↓as_13, ↓as_14, ↓as_15, ↓as_16, ↓as_17, ↓as_18, ↓as_19, ↓as_20, ↓as_21, ↓as_22, ↓as_23, ↓as_24, ↓as_25, ↓as_26, ↓as_27, ↓as_28, ↓as_29, ↓as_30, ↓as_31, ↓as_t, ↓as_n, ↓as_c, ↓x1_0, ↓x2_0, ↓x2_1, ↓x3_0, ↓x3_1, ↓x3_2, ↓x4_0, ↓x4_1, ↓x4_2, ↓x4_3, ↓x5_0, ↓x5_1, ↓x5_2, ↓x5_3, ↓x5_4, ↓gc_id, ↓gc_bl, ↓gc_bl2, ↓gc_bl3, ↓gc_i, ↓gc_i2, ↓gc_n, ↓gc_n2, ↓gc_ex, ↓gc_ex0, ↓gc_ex2, ↓ce_ii, ↓ce_bb, ↓ce_2, ↓ce_3, ↓cn_ii, ↓cn_bb, ↓cn_2, ↓cn_3, ↓pk_bl, ↓pk_int, ↓pk_tn, ↓pk_tc, ↓pk_non, ↓nb_bl, ↓nb_int, ↓yt_non, ↓yt_bl, ↓yt_int, ↓yt_str, ↓yt_tup, ↓wp_tup, List.length_cons, List.length_nil, lim, Nat.reduceAdd, Nat.reduceLeDiff, true_and, and_true, is_ii, is_ib, is_bi, is_bb, is_tt, is_lt, is_it, is_nt, is_st, is_ni, is_si, is_ti, is_li, Bool.not_true, Bool.not_false, Bool.false_eq_true, if_true, if_false, abs_eq, Int.cast_ofNat_Int, BEq.rfl, beq_iff_eq, Int.reduceBEq, Int.reduceLT, Int.reduceLE, Int.reduceNeg, Int.reduceEq, List.all_cons, List.all_nil, id, Bool.and_true, Bool.true_and, Bool.and_self, same_nil', oc_some, oc_none, bls, wBs_some, wipe, Option.map_some, List.set_cons_zero, List.set_cons_succ, decide_true, decide_false, ↓reduceIte, decide_eq_true_eq, Bool.not_eq_true', ↓ht2, hi]
    exact hQ
  | _ =>
    simp (decide := true) only [↓ss_cons, ↓ss_nil, ↓s_set, ↓s_ret, ↓s_retN, ↓s_expr, ↓s_ife, ↓s_raise, ↓s_cnt, ↓s_brk, ↓s_pass, ↓s_setX, ↓s_for, ↓s_foS, ↓e_k, ↓e_tup, ↓e_lst, ↓e_call, ↓e_blt, ↓e_cmp, ↓e_bin, ↓e_neg, ↓e_and, ↓e_or, ↓e_not, ↓e_ite, ↓e_chain, ↓e_ix, ↓e_isi, ↓e_meth, ↓e_sl, ↓e_lam, ↓e_lc, ↓es_cons, ↓es_nil, ↓o_no, ↓b_add, ↓b_sub, ↓b_subB, ↓b_addB, ↓b_mul, ↓b_div, ↓b_mod, ↓b_pow, ↓b_addT, ↓b_mulT, ↓c_lt, ↓c_le, ↓c_gt, ↓c_ge, ↓c_isB, ↓c_isNotB, ↓c_isN, ↓c_isNotN, ↓t_abs, ↓t_int, ↓t_intB, ↓t_len, ↓t_min, ↓t_max, ↓t_tupT, ↓t_lstT, ↓i_v, ↓i_tup, ↓i_lst, ↓i_call, ↓i_ix, ↓i_sl, ↓lc_nil, ↓lc_cons, ↓w_lcB, ↓fo_nil, ↓fo_cons, ↓ts_nil, ↓ts_cons, ↓t_all, ↓t_any, ↓t_tup, ↓wI_int, ↓wR_ok, ↓v_0, ↓v_1, ↓v_2, ↓v_3, ↓v_4, ↓v_5, ↓v_6, ↓v_7, ↓v_8, ↓v_9, ↓v_10, ↓v_11, ↓v_12, ↓v_13, ↓v_14, ↓v_15, ↓v_16, ↓v_17, ↓v_18, ↓v_19, ↓v_20, ↓v_21, ↓v_22, ↓v_23, ↓v_24, ↓v_25, ↓v_26, ↓v_27, ↓v_28, ↓v_29, ↓v_30, ↓v_31, ↓as_0, ↓as_1, ↓as_2, ↓as_3, ↓as_4, ↓as_5, ↓as_6, ↓as_7, ↓as_8, ↓as_9, ↓as_10, ↓as_11, ↓as_12, ↓as_13, ↓as_14, ↓as_15, ↓as_16, ↓as_17, ↓as_18, ↓as_19, ↓as_20, ↓as_21, ↓as_22, ↓as_23, ↓as_24, ↓as_25, ↓as_26, ↓as_27, ↓as_28, ↓as_29, ↓as_30, ↓as_31, ↓as_t, ↓as_n, ↓as_c, ↓x1_0, ↓x2_0, ↓x2_1, ↓x3_0, ↓x3_1, ↓x3_2, ↓x4_0, ↓x4_1, ↓x4_2, ↓x4_3, ↓x5_0, ↓x5_1, ↓x5_2, ↓x5_3, ↓x5_4, ↓gc_id, ↓gc_bl, ↓gc_bl2, ↓gc_bl3, ↓gc_i, ↓gc_i2, ↓gc_n, ↓gc_n2, ↓gc_ex, ↓gc_ex0, ↓gc_ex2, ↓ce_ii, ↓ce_bb, ↓ce_2, ↓ce_3, ↓cn_ii, ↓cn_bb, ↓cn_2, ↓cn_3, ↓pk_bl, ↓pk_int, ↓pk_tn, ↓pk_tc, ↓pk_non, ↓nb_bl, ↓nb_int, ↓yt_non, ↓yt_bl, ↓yt_int, ↓yt_str, ↓yt_tup, ↓wp_tup, List.length_cons, List.length_nil, lim, Nat.reduceAdd, Nat.reduceLeDiff, true_and, and_true, is_ii, is_ib, is_bi, is_bb, is_tt, is_lt, is_it, is_nt, is_st, is_ni, is_si, is_ti, is_li, Bool.not_true, Bool.not_false, Bool.false_eq_true, if_true, if_false, abs_eq, Int.cast_ofNat_Int, BEq.rfl, beq_iff_eq, Int.reduceBEq, Int.reduceLT, Int.reduceLE, Int.reduceNeg, Int.reduceEq, List.all_cons, List.all_nil, id, Bool.and_true, Bool.true_and, Bool.and_self, same_nil', oc_some, oc_none, bls, wBs_some, wipe, Option.map_some, List.set_cons_zero, List.set_cons_succ, decide_true, decide_false, ↓reduceIte, decide_eq_true_eq, Bool.not_eq_true']
    exact hQ
theorem Pn.vals (p : Pn) : p.d.vals c := by
  unfold Pn.d D.vals
  intro x hx
  simp at hx
  rcases hx with rfl | rfl | rfl <;> rfl
theorem ispoint_p (p : Pn) [h : Pn.Ok p] : callD T (k + 2) "is_point" [p.d] c = .ok (.bl true) c := by
  rw [ispoint_e k c p.d (Pn.vals c p), (isPt_d p).mpr h.pt]
section
variable [hk : HasFn T "check_point" F.check_point]
theorem checkpoint_p (p : Pn) [h : Pn.Ok p] : callD T (k + 3) "check_point" [p.d] c = .ok .non c := by
  refine eq_of fun Q E hQ => call_body (fn := F.check_point) hk.h rfl ?_
  unfold F.check_point
  show wS (dSs _ _ [some p.d] c) _
  simp (decide := true) only [↓ss_cons, ↓ss_nil, ↓s_set, ↓s_ret, ↓s_retN, ↓s_expr, ↓s_ife, ↓s_raise, ↓s_cnt, ↓s_brk, ↓s_pass, ↓s_setX, ↓s_for, ↓s_foS, ↓e_k, ↓e_tup, ↓e_lst, ↓e_call, ↓e_blt, ↓e_cmp, ↓e_bin, ↓e_neg, ↓e_and, ↓e_or, ↓e_not, ↓e_ite, ↓e_chain, ↓e_ix, ↓e_isi, ↓e_meth, ↓e_sl, ↓e_lam, ↓e_lc, ↓es_cons, ↓es_nil, ↓o_no, ↓b_add, ↓b_sub, ↓b_subB, ↓b_addB, ↓b_mul, ↓b_div, ↓b_mod, ↓b_pow, ↓b_addT, ↓b_mulT, ↓c_lt, ↓c_le, ↓c_gt, ↓c_ge, ↓c_isB, ↓c_isNotB, ↓c_isN, ↓c_isNotN, ↓t_abs, ↓t_int, ↓t_intB, ↓t_len, ↓t_min, ↓t_max, ↓t_tupT, ↓t_lstT, ↓i_v, ↓i_tup, ↓i_lst, ↓i_call, ↓i_ix, ↓i_sl, ↓lc_nil, ↓lc_cons, ↓w_lcB, ↓fo_nil, ↓fo_cons, ↓ts_nil, ↓ts_cons, ↓t_all, ↓t_any, ↓t_tup, ↓wI_int, ↓wR_ok, ↓v_0, ↓v_1, ↓v_2, ↓v_3, ↓v_4, ↓v_5, ↓v_6, ↓v_7, ↓v_8, ↓v_9, ↓v_10, ↓v_11, ↓v_12, ↓v_13, ↓v_14, ↓v_15, ↓v_16, ↓v_17, ↓v_18, ↓v_19, ↓v_20, ↓v_21, ↓v_22, ↓v_23, ↓v_24, ↓v_25, ↓v_26, ↓v_27, ↓v_28, ↓v_29, ↓v_30, ↓v_31, ↓as_0, ↓as_1, ↓as_2, ↓as_3, ↓as_4, ↓as_5, ↓as_6, ↓as_7, ↓as_8, ↓as_9, ↓as_10, ↓as_11, ↓as_12, ↓as_13, ↓as_14, ↓as_15, ↓as_16, ↓as_17, ↓as_18, ↓as_19, ↓as_20, ↓as_21, ↓as_22, ↓as_23, ↓as_24, ↓as_25, ↓as_26, ↓as_27, ↓as_28, ↓as_29, ↓as_30, ↓as_31, ↓as_t, ↓as_n, ↓as_c, ↓x1_0, ↓x2_0, ↓x2_1, ↓x3_0, ↓x3_1, ↓x3_2, ↓x4_0, ↓x4_1, ↓x4_2, ↓x4_3, ↓x5_0, ↓x5_1, ↓x5_2, ↓x5_3, ↓x5_4, ↓gc_id, ↓gc_bl, ↓gc_bl2, ↓gc_bl3, ↓gc_i, ↓gc_i2, ↓gc_n, ↓gc_n2, ↓gc_ex, ↓gc_ex0, ↓gc_ex2, ↓ce_ii, ↓ce_bb, ↓ce_2, ↓ce_3, ↓cn_ii, ↓cn_bb, ↓cn_2, ↓cn_3, ↓pk_bl, ↓pk_int, ↓pk_tn, ↓pk_tc, ↓pk_non, ↓nb_bl, ↓nb_int, ↓yt_non, ↓yt_bl, ↓yt_int, ↓yt_str, ↓yt_tup, ↓wp_tup, List.length_cons, List.length_nil, lim, Nat.reduceAdd, Nat.reduceLeDiff, true_and, and_true, is_ii, is_ib, is_bi, is_bb, is_tt, is_lt, is_it, is_nt, is_st, is_ni, is_si, is_ti, is_li, Bool.not_true, Bool.not_false, Bool.false_eq_true, if_true, if_false, abs_eq, Int.cast_ofNat_Int, BEq.rfl, beq_iff_eq, Int.reduceBEq, Int.reduceLT, Int.reduceLE, Int.reduceNeg, Int.reduceEq, List.all_cons, List.all_nil, id, Bool.and_true, Bool.true_and, Bool.and_self, same_nil', oc_some, oc_none, bls, wBs_some, wipe, Option.map_some, List.set_cons_zero, List.set_cons_succ, decide_true, decide_false, ↓reduceIte, decide_eq_true_eq, Bool.not_eq_true', ↓w_of _ _ (ispoint_p _ _ p)]
  exact hQ
theorem checkpoint_x (d : D) (hd : d.vals c) (h : isPt d = false) : callD T (k + 3) "check_point" [d] c = .ex "BadShape" c := by
  refine ex_of fun Q E hQ => call_body (fn := F.check_point) hk.h rfl ?_
  unfold F.check_point
  show wS (dSs _ _ [some d] c) _
  have e := ispoint_e (T := T) k c d hd
  rw [h] at e
  simp (decide := true) only [↓ss_cons, ↓ss_nil, ↓s_set, ↓s_ret, ↓s_retN, ↓s_expr, ↓s_ife, ↓s_raise, ↓s_cnt, ↓s_brk, ↓s_pass, ↓s_setX, ↓s_for, ↓s_foS, ↓e_k, ↓e_tup, ↓e_lst, ↓e_call, ↓e_blt, ↓e_cmp, ↓e_bin, ↓e_neg, ↓e_and, ↓e_or, ↓e_not, ↓e_ite, ↓e_chain, ↓e_ix, ↓e_isi, ↓e_meth, ↓e_sl, ↓e_lam, ↓e_lc, ↓es_cons, ↓es_nil, ↓o_no, ↓b_add, ↓b_sub, ↓b_subB, ↓b_addB, ↓b_mul, ↓b_div, ↓b_mod, ↓b_pow, ↓b_addT, ↓b_mulT, ↓c_lt, ↓c_le, ↓c_gt, ↓c_ge, ↓c_isB, ↓c_isNotB, ↓c_isN, ↓c_isNotN, ↓t_abs, ↓t_int, ↓t_intB, ↓t_len, ↓t_min, ↓t_max, ↓t_tupT, ↓t_lstT, ↓i_v, ↓i_tup, ↓i_lst, ↓i_call, ↓i_ix, ↓i_sl, ↓lc_nil, ↓lc_cons, ↓w_lcB, ↓fo_nil, ↓fo_cons, ↓ts_nil, ↓ts_cons, ↓t_all, ↓t_any, ↓t_tup, ↓wI_int, ↓wR_ok, ↓v_0, ↓v_1, ↓v_2, ↓v_3, ↓v_4, ↓v_5, ↓v_6, ↓v_7, ↓v_8, ↓v_9, ↓v_10, ↓v_11, ↓v_12, ↓v_13, ↓v_14, ↓v_15, ↓v_16, ↓v_17, ↓v_18, ↓v_19, ↓v_20, ↓v_21, ↓v_22, ↓v_23, ↓v_24, ↓v_25, ↓v_26, ↓v_27, ↓v_28, ↓v_29, ↓v_30, ↓v_31, ↓as_0, ↓as_1, ↓as_2, ↓as_3, ↓as_4, ↓as_5, ↓as_6, ↓as_7, ↓as_8, ↓as_9, ↓as_10, ↓as_11, ↓as_12, ↓as_13, ↓as_14, ↓as_15, ↓as_16, ↓as_17, ↓as_18, ↓as_19, ↓as_20, ↓as_21, ↓as_22, ↓as_23, ↓as_24, ↓as_25, ↓as_26, ↓as_27, ↓as_28, ↓as_29, ↓as_30, ↓as_31, ↓as_t, ↓as_n, ↓as_c, ↓x1_0, ↓x2_0, ↓x2_1, ↓x3_0, ↓x3_1, ↓x3_2, ↓x4_0, ↓x4_1, ↓x4_2, ↓x4_3, ↓x5_0, ↓x5_1, ↓x5_2, ↓x5_3, ↓x5_4, ↓gc_id, ↓gc_bl, ↓gc_bl2, ↓gc_bl3, ↓gc_i, ↓gc_i2, ↓gc_n, ↓gc_n2, ↓gc_ex, ↓gc_ex0, ↓gc_ex2, ↓ce_ii, ↓ce_bb, ↓ce_2, ↓ce_3, ↓cn_ii, ↓cn_bb, ↓cn_2, ↓cn_3, ↓pk_bl, ↓pk_int, ↓pk_tn, ↓pk_tc, ↓pk_non, ↓nb_bl, ↓nb_int, ↓yt_non, ↓yt_bl, ↓yt_int, ↓yt_str, ↓yt_tup, ↓wp_tup, List.length_cons, List.length_nil, lim, Nat.reduceAdd, Nat.reduceLeDiff, true_and, and_true, is_ii, is_ib, is_bi, is_bb, is_tt, is_lt, is_it, is_nt, is_st, is_ni, is_si, is_ti, is_li, Bool.not_true, Bool.not_false, Bool.false_eq_true, if_true, if_false, abs_eq, Int.cast_ofNat_Int, BEq.rfl, beq_iff_eq, Int.reduceBEq, Int.reduceLT, Int.reduceLE, Int.reduceNeg, Int.reduceEq, List.all_cons, List.all_nil, id, Bool.and_true, Bool.true_and, Bool.and_self, same_nil', oc_some, oc_none, bls, wBs_some, wipe, Option.map_some, List.set_cons_zero, List.set_cons_succ, decide_true, decide_false, ↓reduceIte, decide_eq_true_eq, Bool.not_eq_true', ↓w_of _ _ e]
  exact hQ
end
end
/-! ### what is reckoned -/
section
variable {T : Tab} (k : Nat) (c : Cells)
/-- which of two stands ahead -/
def cmpP (p q : Pn) : Int := cmpv p.x p.y p.w q.x q.y q.w
def detP (a b d : Pn) : Int := det a.x a.y a.w b.x b.y b.w d.x d.y d.w
def sideP (a b d : Pn) : Int := sgn (detP a b d)
theorem compared_e [hf : HasFn T "compared" F.compared] (p q : Pn) [Pn.Ok p] [Pn.Ok q] : callD T (k + 1) "compared" [p.d, q.d] c = .ok (.int (cmpP p q)) c := by
  refine eq_of fun Q E hQ => call_body (fn := F.compared) hf.h rfl ?_
  unfold F.compared
  show wS (dSs _ _ [some p.d, some q.d, none, none, none] c) _
  simp (decide := true) only [↓ss_cons, ↓ss_nil, ↓s_set, ↓s_ret, ↓s_retN, ↓s_expr, ↓s_ife, ↓s_raise, ↓s_cnt, ↓s_brk, ↓s_pass, ↓s_setX, ↓s_for, ↓s_foS, ↓e_k, ↓e_tup, ↓e_lst, ↓e_call, ↓e_blt, ↓e_cmp, ↓e_bin, ↓e_neg, ↓e_and, ↓e_or, ↓e_not, ↓e_ite, ↓e_chain, ↓e_ix, ↓e_isi, ↓e_meth, ↓e_sl, ↓e_lam, ↓e_lc, ↓es_cons, ↓es_nil, ↓o_no, ↓b_add, ↓b_sub, ↓b_subB, ↓b_addB, ↓b_mul, ↓b_div, ↓b_mod, ↓b_pow, ↓b_addT, ↓b_mulT, ↓c_lt, ↓c_le, ↓c_gt, ↓c_ge, ↓c_isB, ↓c_isNotB, ↓c_isN, ↓c_isNotN, ↓t_abs, ↓t_int, ↓t_intB, ↓t_len, ↓t_min, ↓t_max, ↓t_tupT, ↓t_lstT, ↓i_v, ↓i_tup, ↓i_lst, ↓i_call, ↓i_ix, ↓i_sl, ↓lc_nil, ↓lc_cons, ↓w_lcB, ↓fo_nil, ↓fo_cons, ↓ts_nil, ↓ts_cons, ↓t_all, ↓t_any, ↓t_tup, ↓wI_int, ↓wR_ok, ↓v_0, ↓v_1, ↓v_2, ↓v_3, ↓v_4, ↓v_5, ↓v_6, ↓v_7, ↓v_8, ↓v_9, ↓v_10, ↓v_11, ↓v_12, ↓v_13, ↓v_14, ↓v_15, ↓v_16, ↓v_17, ↓v_18, ↓v_19, ↓v_20, ↓v_21, ↓v_22, ↓v_23, ↓v_24, ↓v_25, ↓v_26, ↓v_27, ↓v_28, ↓v_29, ↓v_30, ↓v_31, ↓as_0, ↓as_1, ↓as_2, ↓as_3, ↓as_4, ↓as_5, ↓as_6, ↓as_7, ↓as_8, ↓as_9, ↓as_10, ↓as_11, ↓as_12, ↓as_13, ↓as_14, ↓as_15, ↓as_16, ↓as_17, ↓as_18, ↓as_19, ↓as_20, ↓as_21, ↓as_22, ↓as_23, ↓as_24, ↓as_25, ↓as_26, ↓as_27, ↓as_28, ↓as_29, ↓as_30, ↓as_31, ↓as_t, ↓as_n, ↓as_c, ↓x1_0, ↓x2_0, ↓x2_1, ↓x3_0, ↓x3_1, ↓x3_2, ↓x4_0, ↓x4_1, ↓x4_2, ↓x4_3, ↓x5_0, ↓x5_1, ↓x5_2, ↓x5_3, ↓x5_4, ↓gc_id, ↓gc_bl, ↓gc_bl2, ↓gc_bl3, ↓gc_i, ↓gc_i2, ↓gc_n, ↓gc_n2, ↓gc_ex, ↓gc_ex0, ↓gc_ex2, ↓ce_ii, ↓ce_bb, ↓ce_2, ↓ce_3, ↓cn_ii, ↓cn_bb, ↓cn_2, ↓cn_3, ↓pk_bl, ↓pk_int, ↓pk_tn, ↓pk_tc, ↓pk_non, ↓nb_bl, ↓nb_int, ↓yt_non, ↓yt_bl, ↓yt_int, ↓yt_str, ↓yt_tup, ↓wp_tup, List.length_cons, List.length_nil, lim, Nat.reduceAdd, Nat.reduceLeDiff, true_and, and_true, is_ii, is_ib, is_bi, is_bb, is_tt, is_lt, is_it, is_nt, is_st, is_ni, is_si, is_ti, is_li, Bool.not_true, Bool.not_false, Bool.false_eq_true, if_true, if_false, abs_eq, Int.cast_ofNat_Int, BEq.rfl, beq_iff_eq, Int.reduceBEq, Int.reduceLT, Int.reduceLE, Int.reduceNeg, Int.reduceEq, List.all_cons, List.all_nil, id, Bool.and_true, Bool.true_and, Bool.and_self, same_nil', oc_some, oc_none, bls, wBs_some, wipe, Option.map_some, List.set_cons_zero, List.set_cons_succ, decide_true, decide_false, ↓reduceIte, decide_eq_true_eq, Bool.not_eq_true', ↓p_0, ↓p_1, ↓p_2, ↓p_len, ↓p_eq, ↓p_ne, ↓p_ty, ↓p_items, ↓e_rv, ↓rv_2, mulOk_sm]
  unfold cmpP cmpv at hQ
  grind
theorem lcompared_e [hf : HasFn T "_law_compared" F._law_compared] (p q : Pn) [Pn.Ok p] [Pn.Ok q] : callD T (k + 1) "_law_compared" [p.d, q.d] c = .ok (.int (cmpP p q)) c := by
  refine eq_of fun Q E hQ => call_body (fn := F._law_compared) hf.h rfl ?_
  unfold F._law_compared
  show wS (dSs _ _ [some p.d, some q.d, none] c) _
  simp (decide := true) only [↓ss_cons, ↓ss_nil, ↓s_set, ↓s_ret, ↓s_retN, ↓s_expr, ↓s_ife, ↓s_raise, ↓s_cnt, ↓s_brk, ↓s_pass, ↓s_setX, ↓s_for, ↓s_foS, ↓e_k, ↓e_tup, ↓e_lst, ↓e_call, ↓e_blt, ↓e_cmp, ↓e_bin, ↓e_neg, ↓e_and, ↓e_or, ↓e_not, ↓e_ite, ↓e_chain, ↓e_ix, ↓e_isi, ↓e_meth, ↓e_sl, ↓e_lam, ↓e_lc, ↓es_cons, ↓es_nil, ↓o_no, ↓b_add, ↓b_sub, ↓b_subB, ↓b_addB, ↓b_mul, ↓b_div, ↓b_mod, ↓b_pow, ↓b_addT, ↓b_mulT, ↓c_lt, ↓c_le, ↓c_gt, ↓c_ge, ↓c_isB, ↓c_isNotB, ↓c_isN, ↓c_isNotN, ↓t_abs, ↓t_int, ↓t_intB, ↓t_len, ↓t_min, ↓t_max, ↓t_tupT, ↓t_lstT, ↓i_v, ↓i_tup, ↓i_lst, ↓i_call, ↓i_ix, ↓i_sl, ↓lc_nil, ↓lc_cons, ↓w_lcB, ↓fo_nil, ↓fo_cons, ↓ts_nil, ↓ts_cons, ↓t_all, ↓t_any, ↓t_tup, ↓wI_int, ↓wR_ok, ↓v_0, ↓v_1, ↓v_2, ↓v_3, ↓v_4, ↓v_5, ↓v_6, ↓v_7, ↓v_8, ↓v_9, ↓v_10, ↓v_11, ↓v_12, ↓v_13, ↓v_14, ↓v_15, ↓v_16, ↓v_17, ↓v_18, ↓v_19, ↓v_20, ↓v_21, ↓v_22, ↓v_23, ↓v_24, ↓v_25, ↓v_26, ↓v_27, ↓v_28, ↓v_29, ↓v_30, ↓v_31, ↓as_0, ↓as_1, ↓as_2, ↓as_3, ↓as_4, ↓as_5, ↓as_6, ↓as_7, ↓as_8, ↓as_9, ↓as_10, ↓as_11, ↓as_12, ↓as_13, ↓as_14, ↓as_15, ↓as_16, ↓as_17, ↓as_18, ↓as_19, ↓as_20, ↓as_21, ↓as_22, ↓as_23, ↓as_24, ↓as_25, ↓as_26, ↓as_27, ↓as_28, ↓as_29, ↓as_30, ↓as_31, ↓as_t, ↓as_n, ↓as_c, ↓x1_0, ↓x2_0, ↓x2_1, ↓x3_0, ↓x3_1, ↓x3_2, ↓x4_0, ↓x4_1, ↓x4_2, ↓x4_3, ↓x5_0, ↓x5_1, ↓x5_2, ↓x5_3, ↓x5_4, ↓gc_id, ↓gc_bl, ↓gc_bl2, ↓gc_bl3, ↓gc_i, ↓gc_i2, ↓gc_n, ↓gc_n2, ↓gc_ex, ↓gc_ex0, ↓gc_ex2, ↓ce_ii, ↓ce_bb, ↓ce_2, ↓ce_3, ↓cn_ii, ↓cn_bb, ↓cn_2, ↓cn_3, ↓pk_bl, ↓pk_int, ↓pk_tn, ↓pk_tc, ↓pk_non, ↓nb_bl, ↓nb_int, ↓yt_non, ↓yt_bl, ↓yt_int, ↓yt_str, ↓yt_tup, ↓wp_tup, List.length_cons, List.length_nil, lim, Nat.reduceAdd, Nat.reduceLeDiff, true_and, and_true, is_ii, is_ib, is_bi, is_bb, is_tt, is_lt, is_it, is_nt, is_st, is_ni, is_si, is_ti, is_li, Bool.not_true, Bool.not_false, Bool.false_eq_true, if_true, if_false, abs_eq, Int.cast_ofNat_Int, BEq.rfl, beq_iff_eq, Int.reduceBEq, Int.reduceLT, Int.reduceLE, Int.reduceNeg, Int.reduceEq, List.all_cons, List.all_nil, id, Bool.and_true, Bool.true_and, Bool.and_self, same_nil', oc_some, oc_none, bls, wBs_some, wipe, Option.map_some, List.set_cons_zero, List.set_cons_succ, decide_true, decide_false, ↓reduceIte, decide_eq_true_eq, Bool.not_eq_true', ↓p_0, ↓p_1, ↓p_2, ↓p_len, ↓p_eq, ↓p_ne, ↓p_ty, ↓p_items, ↓e_rv, ↓rv_2, mulOk_sm]
  unfold cmpP cmpv at hQ
  grind
theorem side_e [hf : HasFn T "side" F.side] (a b d : Pn) [Pn.Ok a] [Pn.Ok b] [Pn.Ok d] : callD T (k + 1) "side" [a.d, b.d, d.d] c = .ok (.int (sideP a b d)) c := by
  refine eq_of fun Q E hQ => call_body (fn := F.side) hf.h rfl ?_
  unfold F.side
  show wS (dSs _ _ [some a.d, some b.d, some d.d, none] c) _
  simp (decide := true) only [↓ss_cons, ↓ss_nil, ↓s_set, ↓s_ret, ↓s_retN, ↓s_expr, ↓s_ife, ↓s_raise, ↓s_cnt, ↓s_brk, ↓s_pass, ↓s_setX, ↓s_for, ↓s_foS, ↓e_k, ↓e_tup, ↓e_lst, ↓e_call, ↓e_blt, ↓e_cmp, ↓e_bin, ↓e_neg, ↓e_and, ↓e_or, ↓e_not, ↓e_ite, ↓e_chain, ↓e_ix, ↓e_isi, ↓e_meth, ↓e_sl, ↓e_lam, ↓e_lc, ↓es_cons, ↓es_nil, ↓o_no, ↓b_add, ↓b_sub, ↓b_subB, ↓b_addB, ↓b_mul, ↓b_div, ↓b_mod, ↓b_pow, ↓b_addT, ↓b_mulT, ↓c_lt, ↓c_le, ↓c_gt, ↓c_ge, ↓c_isB, ↓c_isNotB, ↓c_isN, ↓c_isNotN, ↓t_abs, ↓t_int, ↓t_intB, ↓t_len, ↓t_min, ↓t_max, ↓t_tupT, ↓t_lstT, ↓i_v, ↓i_tup, ↓i_lst, ↓i_call, ↓i_ix, ↓i_sl, ↓lc_nil, ↓lc_cons, ↓w_lcB, ↓fo_nil, ↓fo_cons, ↓ts_nil, ↓ts_cons, ↓t_all, ↓t_any, ↓t_tup, ↓wI_int, ↓wR_ok, ↓v_0, ↓v_1, ↓v_2, ↓v_3, ↓v_4, ↓v_5, ↓v_6, ↓v_7, ↓v_8, ↓v_9, ↓v_10, ↓v_11, ↓v_12, ↓v_13, ↓v_14, ↓v_15, ↓v_16, ↓v_17, ↓v_18, ↓v_19, ↓v_20, ↓v_21, ↓v_22, ↓v_23, ↓v_24, ↓v_25, ↓v_26, ↓v_27, ↓v_28, ↓v_29, ↓v_30, ↓v_31, ↓as_0, ↓as_1, ↓as_2, ↓as_3, ↓as_4, ↓as_5, ↓as_6, ↓as_7, ↓as_8, ↓as_9, ↓as_10, ↓as_11, ↓as_12, ↓as_13, ↓as_14, ↓as_15, ↓as_16, ↓as_17, ↓as_18, ↓as_19, ↓as_20, ↓as_21, ↓as_22, ↓as_23, ↓as_24, ↓as_25, ↓as_26, ↓as_27, ↓as_28, ↓as_29, ↓as_30, ↓as_31, ↓as_t, ↓as_n, ↓as_c, ↓x1_0, ↓x2_0, ↓x2_1, ↓x3_0, ↓x3_1, ↓x3_2, ↓x4_0, ↓x4_1, ↓x4_2, ↓x4_3, ↓x5_0, ↓x5_1, ↓x5_2, ↓x5_3, ↓x5_4, ↓gc_id, ↓gc_bl, ↓gc_bl2, ↓gc_bl3, ↓gc_i, ↓gc_i2, ↓gc_n, ↓gc_n2, ↓gc_ex, ↓gc_ex0, ↓gc_ex2, ↓ce_ii, ↓ce_bb, ↓ce_2, ↓ce_3, ↓cn_ii, ↓cn_bb, ↓cn_2, ↓cn_3, ↓pk_bl, ↓pk_int, ↓pk_tn, ↓pk_tc, ↓pk_non, ↓nb_bl, ↓nb_int, ↓yt_non, ↓yt_bl, ↓yt_int, ↓yt_str, ↓yt_tup, ↓wp_tup, List.length_cons, List.length_nil, lim, Nat.reduceAdd, Nat.reduceLeDiff, true_and, and_true, is_ii, is_ib, is_bi, is_bb, is_tt, is_lt, is_it, is_nt, is_st, is_ni, is_si, is_ti, is_li, Bool.not_true, Bool.not_false, Bool.false_eq_true, if_true, if_false, abs_eq, Int.cast_ofNat_Int, BEq.rfl, beq_iff_eq, Int.reduceBEq, Int.reduceLT, Int.reduceLE, Int.reduceNeg, Int.reduceEq, List.all_cons, List.all_nil, id, Bool.and_true, Bool.true_and, Bool.and_self, same_nil', oc_some, oc_none, bls, wBs_some, wipe, Option.map_some, List.set_cons_zero, List.set_cons_succ, decide_true, decide_false, ↓reduceIte, decide_eq_true_eq, Bool.not_eq_true', ↓p_0, ↓p_1, ↓p_2, ↓p_len, ↓p_eq, ↓p_ne, ↓p_ty, ↓p_items, ↓e_rv, ↓rv_2, mulOk_sm]
  exact hQ
theorem lside_e [hf : HasFn T "_law_side" F._law_side] (a b d : Pn) [ha : Pn.Ok a] [Pn.Ok b] [Pn.Ok d] : callD T (k + 1) "_law_side" [a.d, b.d, d.d] c = .ok (.int (sideP a b d)) c := by
  refine eq_of fun Q E hQ => call_body (fn := F._law_side) hf.h rfl ?_
  unfold F._law_side
  show wS (dSs _ _ [some a.d, some b.d, some d.d, none] c) _
  simp (decide := true) only [↓ss_cons, ↓ss_nil, ↓s_set, ↓s_ret, ↓s_retN, ↓s_expr, ↓s_ife, ↓s_raise, ↓s_cnt, ↓s_brk, ↓s_pass, ↓s_setX, ↓s_for, ↓s_foS, ↓e_k, ↓e_tup, ↓e_lst, ↓e_call, ↓e_blt, ↓e_cmp, ↓e_bin, ↓e_neg, ↓e_and, ↓e_or, ↓e_not, ↓e_ite, ↓e_chain, ↓e_ix, ↓e_isi, ↓e_meth, ↓e_sl, ↓e_lam, ↓e_lc, ↓es_cons, ↓es_nil, ↓o_no, ↓b_add, ↓b_sub, ↓b_subB, ↓b_addB, ↓b_mul, ↓b_div, ↓b_mod, ↓b_pow, ↓b_addT, ↓b_mulT, ↓c_lt, ↓c_le, ↓c_gt, ↓c_ge, ↓c_isB, ↓c_isNotB, ↓c_isN, ↓c_isNotN, ↓t_abs, ↓t_int, ↓t_intB, ↓t_len, ↓t_min, ↓t_max, ↓t_tupT, ↓t_lstT, ↓i_v, ↓i_tup, ↓i_lst, ↓i_call, ↓i_ix, ↓i_sl, ↓lc_nil, ↓lc_cons, ↓w_lcB, ↓fo_nil, ↓fo_cons, ↓ts_nil, ↓ts_cons, ↓t_all, ↓t_any, ↓t_tup, ↓wI_int, ↓wR_ok, ↓v_0, ↓v_1, ↓v_2, ↓v_3, ↓v_4, ↓v_5, ↓v_6, ↓v_7, ↓v_8, ↓v_9, ↓v_10, ↓v_11, ↓v_12, ↓v_13, ↓v_14, ↓v_15, ↓v_16, ↓v_17, ↓v_18, ↓v_19, ↓v_20, ↓v_21, ↓v_22, ↓v_23, ↓v_24, ↓v_25, ↓v_26, ↓v_27, ↓v_28, ↓v_29, ↓v_30, ↓v_31, ↓as_0, ↓as_1, ↓as_2, ↓as_3, ↓as_4, ↓as_5, ↓as_6, ↓as_7, ↓as_8, ↓as_9, ↓as_10, ↓as_11, ↓as_12, ↓as_13, ↓as_14, ↓as_15, ↓as_16, ↓as_17, ↓as_18, ↓as_19, ↓as_20, ↓as_21, ↓as_22, ↓as_23, ↓as_24, ↓as_25, ↓as_26, ↓as_27, ↓as_28, ↓as_29, ↓as_30, ↓as_31, ↓as_t, ↓as_n, ↓as_c, ↓x1_0, ↓x2_0, ↓x2_1, ↓x3_0, ↓x3_1, ↓x3_2, ↓x4_0, ↓x4_1, ↓x4_2, ↓x4_3, ↓x5_0, ↓x5_1, ↓x5_2, ↓x5_3, ↓x5_4, ↓gc_id, ↓gc_bl, ↓gc_bl2, ↓gc_bl3, ↓gc_i, ↓gc_i2, ↓gc_n, ↓gc_n2, ↓gc_ex, ↓gc_ex0, ↓gc_ex2, ↓ce_ii, ↓ce_bb, ↓ce_2, ↓ce_3, ↓cn_ii, ↓cn_bb, ↓cn_2, ↓cn_3, ↓pk_bl, ↓pk_int, ↓pk_tn, ↓pk_tc, ↓pk_non, ↓nb_bl, ↓nb_int, ↓yt_non, ↓yt_bl, ↓yt_int, ↓yt_str, ↓yt_tup, ↓wp_tup, List.length_cons, List.length_nil, lim, Nat.reduceAdd, Nat.reduceLeDiff, true_and, and_true, is_ii, is_ib, is_bi, is_bb, is_tt, is_lt, is_it, is_nt, is_st, is_ni, is_si, is_ti, is_li, Bool.not_true, Bool.not_false, Bool.false_eq_true, if_true, if_false, abs_eq, Int.cast_ofNat_Int, BEq.rfl, beq_iff_eq, Int.reduceBEq, Int.reduceLT, Int.reduceLE, Int.reduceNeg, Int.reduceEq, List.all_cons, List.all_nil, id, Bool.and_true, Bool.true_and, Bool.and_self, same_nil', oc_some, oc_none, bls, wBs_some, wipe, Option.map_some, List.set_cons_zero, List.set_cons_succ, decide_true, decide_false, ↓reduceIte, decide_eq_true_eq, Bool.not_eq_true', ↓p_0, ↓p_1, ↓p_2, ↓p_len, ↓p_eq, ↓p_ne, ↓p_ty, ↓p_items, ↓e_rv, ↓rv_2, mulOk_sm]
  have e : (b.x * a.w - a.x * b.w) * (d.y * a.w - a.y * d.w) - (b.y * a.w - a.y * b.w) * (d.x * a.w - a.x * d.w) = a.w * detP a b d := by unfold detP det; grind
  rw [e]
  unfold sideP at hQ
  rw [← sgn_scale ha.pos, ← sgn_if] at hQ
  grind
def liesP (a b p : Pn) : Bool := if sideP a b p ≠ 0 then false else
  if cmpP a b ≤ 0 then decide (cmpP a p ≤ 0) && decide (cmpP p b ≤ 0) else decide (cmpP b p ≤ 0) && decide (cmpP p a ≤ 0)
theorem lies_e [hf : HasFn T "lies" (F.lies "side" "compared")] [HasFn T "side" F.side] [HasFn T "compared" F.compared] (a b p : Pn) [Pn.Ok a] [Pn.Ok b] [Pn.Ok p] : callD T (k + 2) "lies" [a.d, b.d, p.d] c = .ok (.bl (liesP a b p)) c := by
  refine eq_of fun Q E hQ => call_body (fn := F.lies "side" "compared") hf.h rfl ?_
  unfold F.lies
  show wS (dSs _ _ [some a.d, some b.d, some p.d, none, none] c) _
  unfold liesP at hQ
  simp (decide := true) only [↓ss_cons, ↓ss_nil, ↓s_set, ↓s_ret, ↓s_retN, ↓s_expr, ↓s_ife, ↓s_raise, ↓s_cnt, ↓s_brk, ↓s_pass, ↓s_setX, ↓s_for, ↓s_foS, ↓e_k, ↓e_tup, ↓e_lst, ↓e_call, ↓e_blt, ↓e_cmp, ↓e_bin, ↓e_neg, ↓e_and, ↓e_or, ↓e_not, ↓e_ite, ↓e_chain, ↓e_ix, ↓e_isi, ↓e_meth, ↓e_sl, ↓e_lam, ↓e_lc, ↓es_cons, ↓es_nil, ↓o_no, ↓b_add, ↓b_sub, ↓b_subB, ↓b_addB, ↓b_mul, ↓b_div, ↓b_mod, ↓b_pow, ↓b_addT, ↓b_mulT, ↓c_lt, ↓c_le, ↓c_gt, ↓c_ge, ↓c_isB, ↓c_isNotB, ↓c_isN, ↓c_isNotN, ↓t_abs, ↓t_int, ↓t_intB, ↓t_len, ↓t_min, ↓t_max, ↓t_tupT, ↓t_lstT, ↓i_v, ↓i_tup, ↓i_lst, ↓i_call, ↓i_ix, ↓i_sl, ↓lc_nil, ↓lc_cons, ↓w_lcB, ↓fo_nil, ↓fo_cons, ↓ts_nil, ↓ts_cons, ↓t_all, ↓t_any, ↓t_tup, ↓wI_int, ↓wR_ok, ↓v_0, ↓v_1, ↓v_2, ↓v_3, ↓v_4, ↓v_5, ↓v_6, ↓v_7, ↓v_8, ↓v_9, ↓v_10, ↓v_11, ↓v_12, ↓v_13, ↓v_14, ↓v_15, ↓v_16, ↓v_17, ↓v_18, ↓v_19, ↓v_20, ↓v_21, ↓v_22, ↓v_23, ↓v_24, ↓v_25, ↓v_26, ↓v_27, ↓v_28, ↓v_29, ↓v_30, ↓v_31, ↓as_0, ↓as_1, ↓as_2, ↓as_3, ↓as_4, ↓as_5, ↓as_6, ↓as_7, ↓as_8, ↓as_9, ↓as_10, ↓as_11, ↓as_12, ↓as_13, ↓as_14, ↓as_15, ↓as_16, ↓as_17, ↓as_18, ↓as_19, ↓as_20, ↓as_21, ↓as_22, ↓as_23, ↓as_24, ↓as_25, ↓as_26, ↓as_27, ↓as_28, ↓as_29, ↓as_30, ↓as_31, ↓as_t, ↓as_n, ↓as_c, ↓x1_0, ↓x2_0, ↓x2_1, ↓x3_0, ↓x3_1, ↓x3_2, ↓x4_0, ↓x4_1, ↓x4_2, ↓x4_3, ↓x5_0, ↓x5_1, ↓x5_2, ↓x5_3, ↓x5_4, ↓gc_id, ↓gc_bl, ↓gc_bl2, ↓gc_bl3, ↓gc_i, ↓gc_i2, ↓gc_n, ↓gc_n2, ↓gc_ex, ↓gc_ex0, ↓gc_ex2, ↓ce_ii, ↓ce_bb, ↓ce_2, ↓ce_3, ↓cn_ii, ↓cn_bb, ↓cn_2, ↓cn_3, ↓pk_bl, ↓pk_int, ↓pk_tn, ↓pk_tc, ↓pk_non, ↓nb_bl, ↓nb_int, ↓yt_non, ↓yt_bl, ↓yt_int, ↓yt_str, ↓yt_tup, ↓wp_tup, List.length_cons, List.length_nil, lim, Nat.reduceAdd, Nat.reduceLeDiff, true_and, and_true, is_ii, is_ib, is_bi, is_bb, is_tt, is_lt, is_it, is_nt, is_st, is_ni, is_si, is_ti, is_li, Bool.not_true, Bool.not_false, Bool.false_eq_true, if_true, if_false, abs_eq, Int.cast_ofNat_Int, BEq.rfl, beq_iff_eq, Int.reduceBEq, Int.reduceLT, Int.reduceLE, Int.reduceNeg, Int.reduceEq, List.all_cons, List.all_nil, id, Bool.and_true, Bool.true_and, Bool.and_self, same_nil', oc_some, oc_none, bls, wBs_some, wipe, Option.map_some, List.set_cons_zero, List.set_cons_succ, decide_true, decide_false, ↓reduceIte, decide_eq_true_eq, Bool.not_eq_true', ↓w_of _ _ (side_e _ _ a b p), ↓w_of _ _ (compared_e _ _ a b), ↓w_of _ _ (compared_e _ _ a p), ↓w_of _ _ (compared_e _ _ b p), ↓w_of _ _ (compared_e _ _ p b), ↓w_of _ _ (compared_e _ _ p a)]
  grind
theorem llies_e [hf : HasFn T "_law_lies" (F.lies "_law_side" "_law_compared")] [HasFn T "_law_side" F._law_side] [HasFn T "_law_compared" F._law_compared] (a b p : Pn) [Pn.Ok a] [Pn.Ok b] [Pn.Ok p] : callD T (k + 2) "_law_lies" [a.d, b.d, p.d] c = .ok (.bl (liesP a b p)) c := by
  refine eq_of fun Q E hQ => call_body (fn := F.lies "_law_side" "_law_compared") hf.h rfl ?_
  unfold F.lies
  show wS (dSs _ _ [some a.d, some b.d, some p.d, none, none] c) _
  unfold liesP at hQ
  simp (decide := true) only [↓ss_cons, ↓ss_nil, ↓s_set, ↓s_ret, ↓s_retN, ↓s_expr, ↓s_ife, ↓s_raise, ↓s_cnt, ↓s_brk, ↓s_pass, ↓s_setX, ↓s_for, ↓s_foS, ↓e_k, ↓e_tup, ↓e_lst, ↓e_call, ↓e_blt, ↓e_cmp, ↓e_bin, ↓e_neg, ↓e_and, ↓e_or, ↓e_not, ↓e_ite, ↓e_chain, ↓e_ix, ↓e_isi, ↓e_meth, ↓e_sl, ↓e_lam, ↓e_lc, ↓es_cons, ↓es_nil, ↓o_no, ↓b_add, ↓b_sub, ↓b_subB, ↓b_addB, ↓b_mul, ↓b_div, ↓b_mod, ↓b_pow, ↓b_addT, ↓b_mulT, ↓c_lt, ↓c_le, ↓c_gt, ↓c_ge, ↓c_isB, ↓c_isNotB, ↓c_isN, ↓c_isNotN, ↓t_abs, ↓t_int, ↓t_intB, ↓t_len, ↓t_min, ↓t_max, ↓t_tupT, ↓t_lstT, ↓i_v, ↓i_tup, ↓i_lst, ↓i_call, ↓i_ix, ↓i_sl, ↓lc_nil, ↓lc_cons, ↓w_lcB, ↓fo_nil, ↓fo_cons, ↓ts_nil, ↓ts_cons, ↓t_all, ↓t_any, ↓t_tup, ↓wI_int, ↓wR_ok, ↓v_0, ↓v_1, ↓v_2, ↓v_3, ↓v_4, ↓v_5, ↓v_6, ↓v_7, ↓v_8, ↓v_9, ↓v_10, ↓v_11, ↓v_12, ↓v_13, ↓v_14, ↓v_15, ↓v_16, ↓v_17, ↓v_18, ↓v_19, ↓v_20, ↓v_21, ↓v_22, ↓v_23, ↓v_24, ↓v_25, ↓v_26, ↓v_27, ↓v_28, ↓v_29, ↓v_30, ↓v_31, ↓as_0, ↓as_1, ↓as_2, ↓as_3, ↓as_4, ↓as_5, ↓as_6, ↓as_7, ↓as_8, ↓as_9, ↓as_10, ↓as_11, ↓as_12, ↓as_13, ↓as_14, ↓as_15, ↓as_16, ↓as_17, ↓as_18, ↓as_19, ↓as_20, ↓as_21, ↓as_22, ↓as_23, ↓as_24, ↓as_25, ↓as_26, ↓as_27, ↓as_28, ↓as_29, ↓as_30, ↓as_31, ↓as_t, ↓as_n, ↓as_c, ↓x1_0, ↓x2_0, ↓x2_1, ↓x3_0, ↓x3_1, ↓x3_2, ↓x4_0, ↓x4_1, ↓x4_2, ↓x4_3, ↓x5_0, ↓x5_1, ↓x5_2, ↓x5_3, ↓x5_4, ↓gc_id, ↓gc_bl, ↓gc_bl2, ↓gc_bl3, ↓gc_i, ↓gc_i2, ↓gc_n, ↓gc_n2, ↓gc_ex, ↓gc_ex0, ↓gc_ex2, ↓ce_ii, ↓ce_bb, ↓ce_2, ↓ce_3, ↓cn_ii, ↓cn_bb, ↓cn_2, ↓cn_3, ↓pk_bl, ↓pk_int, ↓pk_tn, ↓pk_tc, ↓pk_non, ↓nb_bl, ↓nb_int, ↓yt_non, ↓yt_bl, ↓yt_int, ↓yt_str, ↓yt_tup, ↓wp_tup, List.length_cons, List.length_nil, lim, Nat.reduceAdd, Nat.reduceLeDiff, true_and, and_true, is_ii, is_ib, is_bi, is_bb, is_tt, is_lt, is_it, is_nt, is_st, is_ni, is_si, is_ti, is_li, Bool.not_true, Bool.not_false, Bool.false_eq_true, if_true, if_false, abs_eq, Int.cast_ofNat_Int, BEq.rfl, beq_iff_eq, Int.reduceBEq, Int.reduceLT, Int.reduceLE, Int.reduceNeg, Int.reduceEq, List.all_cons, List.all_nil, id, Bool.and_true, Bool.true_and, Bool.and_self, same_nil', oc_some, oc_none, bls, wBs_some, wipe, Option.map_some, List.set_cons_zero, List.set_cons_succ, decide_true, decide_false, ↓reduceIte, decide_eq_true_eq, Bool.not_eq_true', ↓w_of _ _ (lside_e _ _ a b p), ↓w_of _ _ (lcompared_e _ _ a b), ↓w_of _ _ (lcompared_e _ _ a p), ↓w_of _ _ (lcompared_e _ _ b p), ↓w_of _ _ (lcompared_e _ _ p b), ↓w_of _ _ (lcompared_e _ _ p a)]
  grind
end
end G
end

section
set_option linter.all false
set_option autoImplicit false
set_option maxRecDepth 20000
/-! LD: draws. -/
namespace G
/-- the box of drawn numbers -/
structure BI (c : Cells) (n : Nat) (s g a : Int) (r : Nat) (xs : List Int) : Prop where
  box : c[n]? = some (.lst [.int s, .int g, .int a, .ref r])
  ne : r ≠ n
  row : c[r]? = some (.lst (xs.map .int))
  pos : ∀ x ∈ xs, 0 ≤ x
  s0 : 0 ≤ s
  a0 : 0 ≤ a
  sm : g < 0 → s < 2 ^ 60 ∧ -9 ≤ g
def Bx (c : Cells) (n : Nat) : Prop := ∃ s g a r xs, BI c n s g a r xs
section
variable (c : Cells) (n : Nat) (Q : QD) (E : QX)
theorem bx_set {l : List D} (h : c[n]? = some (.lst l)) : c.set n (.lst l) = c := by
  have hn := (List.getElem?_eq_some_iff.mp h).1
  refine List.ext_getElem? fun i => ?_
  by_cases e : i = n
  · subst e; rw [List.getElem?_set_self hn, h]
  · rw [List.getElem?_set_ne (Ne.symm e)]
theorem bx_get (hn : n < c.length) (l : List D) : (c.set n (.lst l))[n]? = some (.lst l) := List.getElem?_set_self hn
theorem bx_ix (hn : n < c.length) (l : List D) (i : Int) : wR (opIx (.ref n) (.int i) (c.set n (.lst l))) Q E = wO ((atI l i).map some) fun d => Q d (c.set n (.lst l)) := by
  rw [x_ref]
  unfold getL
  rw [bx_get c n hn]
  rfl
theorem bx_0 (hn : n < c.length) (x y z w : D) : wR (opIx (.ref n) (.int 0) (c.set n (.lst [x, y, z, w]))) Q E = Q x (c.set n (.lst [x, y, z, w])) := by rw [bx_ix c n Q E hn]; rfl
theorem bx_1 (hn : n < c.length) (x y z w : D) : wR (opIx (.ref n) (.int 1) (c.set n (.lst [x, y, z, w]))) Q E = Q y (c.set n (.lst [x, y, z, w])) := by rw [bx_ix c n Q E hn]; rfl
theorem bx_2 (hn : n < c.length) (x y z w : D) : wR (opIx (.ref n) (.int 2) (c.set n (.lst [x, y, z, w]))) Q E = Q z (c.set n (.lst [x, y, z, w])) := by rw [bx_ix c n Q E hn]; rfl
theorem bx_3 (hn : n < c.length) (x y z w : D) : wR (opIx (.ref n) (.int 3) (c.set n (.lst [x, y, z, w]))) Q E = Q w (c.set n (.lst [x, y, z, w])) := by rw [bx_ix c n Q E hn]; rfl
variable (P : Cells → Prop)
theorem bs_0 (hn : n < c.length) (x y z w d : D) : wSX (c.set n (.lst [x, y, z, w])) (.ref n) (.int 0) d P = P (c.set n (.lst [d, y, z, w])) := by
  unfold wSX
  rw [wI_int, wX_ref (bx_get c n hn _)]
  show P _ = _
  rw [List.set_set]; rfl
theorem bs_1 (hn : n < c.length) (x y z w d : D) : wSX (c.set n (.lst [x, y, z, w])) (.ref n) (.int 1) d P = P (c.set n (.lst [x, d, z, w])) := by
  unfold wSX
  rw [wI_int, wX_ref (bx_get c n hn _)]
  show P _ = _
  rw [List.set_set]; rfl
theorem bs_2 (hn : n < c.length) (x y z w d : D) : wSX (c.set n (.lst [x, y, z, w])) (.ref n) (.int 2) d P = P (c.set n (.lst [x, y, d, w])) := by
  unfold wSX
  rw [wI_int, wX_ref (bx_get c n hn _)]
  show P _ = _
  rw [List.set_set]; rfl
end
theorem BI.row' {c : Cells} {n : Nat} {s g a : Int} {r : Nat} {xs : List Int} (h : BI c n s g a r xs) (l : List D) : (c.set n (.lst l))[r]? = some (.lst (xs.map .int)) := by
  rw [List.getElem?_set_ne (Ne.symm h.ne)]; exact h.row
theorem BI.bel {c : Cells} {n : Nat} {s g a : Int} {r : Nat} {xs : List Int} (h : BI c n s g a r xs) (s' g' a' : Int) : (Cell.lst [.int s', .int g', .int a', .ref r]).bel c.length = true := by
  have := (List.getElem?_eq_some_iff.mp h.row).1
  simp [Cell.bel, D.bels, D.bel, this]
theorem BI.upd {c : Cells} {n : Nat} {s g a : Int} {r : Nat} {xs : List Int} (h : BI c n s g a r xs) {s' g' a' : Int} (h1 : 0 ≤ s') (h2 : 0 ≤ a') (h3 : g' < 0 → s' < 2 ^ 60 ∧ -9 ≤ g') : BI (c.set n (.lst [.int s', .int g', .int a', .ref r])) n s' g' a' r xs :=
  ⟨bx_get c n (List.getElem?_eq_some_iff.mp h.box).1 _, h.ne, h.row' _, h.pos, h1, h2, h3⟩
variable {T : Tab}
/-- what a draw leaves -/
def Drew (c : Cells) (n : Nat) (r : R D) (m : Int) : Prop := ∃ t l, r = .ok (.int t) (c.set n (.lst l)) ∧ 0 ≤ t ∧ t < m ∧ Bx (c.set n (.lst l)) n
theorem drew_of {c : Cells} {n : Nat} {r : R D} {m : Int} (h : wR r (fun d c' => ∃ t l, d = .int t ∧ c' = c.set n (.lst l) ∧ 0 ≤ t ∧ t < m ∧ Bx (c.set n (.lst l)) n) (fun _ _ => False)) : Drew c n r m := by
  cases r with
  | ok d c' => obtain ⟨t, l, rfl, rfl, h1, h2, h3⟩ := h; exact ⟨t, l, rfl, h1, h2, h3⟩
  | ex _ _ => exact h.elim
  | no => exact h.elim
theorem take_w [hf : HasFn T "_law_take" F._law_take] (k : Nat) {c : Cells} {n : Nat} {m s g a : Int} {r : Nat} {xs : List Int} (B : BI c n s g a r xs) (hm : 0 < m) (hs : Sm 100 m) {Q : QD} {E : QX}
    (hQ : ∀ t s' g' a' : Int, 0 ≤ t → t < m → 0 ≤ s' → 0 ≤ a' → (g' < 0 → s' < 2 ^ 60 ∧ -9 ≤ g') → Q (.int t) (c.set n (.lst [.int s', .int g', .int a', .ref r]))) : wR (callD T (k + 1) "_law_take" [.ref n, .int m] c) Q E := by
  have hn : n < c.length := (List.getElem?_eq_some_iff.mp B.box).1
  have hc : c = c.set n (.lst [.int s, .int g, .int a, .ref r]) := (bx_set c n B.box).symm
  refine call_body (fn := F._law_take) hf.h rfl ?_
  unfold F._law_take
  have hG : ∀ t s' g' a' : Int, 0 ≤ t → t < m → 0 ≤ s' → 0 ≤ a' → (g' < 0 → s' < 2 ^ 60 ∧ -9 ≤ g') → wR (gcR (c.set n (.lst [.int s, .int g, .int a, .ref r])) (.ok (.int t) (c.set n (.lst [.int s', .int g', .int a', .ref r])))) Q E := fun t s' g' a' h1 h2 h3 h4 h5 => by
    rw [← hc, gc_set0 _ _ _ _ _ _ (B.bel _ _ _) rfl]
    exact hQ t s' g' a' h1 h2 h3 h4 h5
  have hlog : (m.natAbs.log2 < 9000) = True := log2_sm (by decide)
  have mt : ∀ x : Int, 0 ≤ x % m ∧ x % m < m := fun x => ⟨Int.emod_nonneg _ (by omega), Int.emod_lt_of_pos _ hm⟩
  rw [hc]
  show wS (dSs _ _ [some (.ref n), some (.int m), none, none, none] _) _
  dsimp only
  have hlen : ∀ (l : List D) (Q : QD) (E : QX), wR (opBlt .len [.ref r] (c.set n (.lst l))) Q E = Q (.int (xs.length : Int)) (c.set n (.lst l)) := fun l Q E => by
    rw [t_lenR _ _ _ _ _ (B.row' l), List.length_map]
  have hdiv : ∀ s' : Int, 0 ≤ s' → 0 ≤ s' / m := fun s' h => Int.ediv_nonneg h (by omega)
  -- a draw from the digits of a cell
  by_cases hg : g = 0
  · subst hg
    by_cases ha : a < xs.length
    · obtain ⟨x, hx, hx2⟩ : ∃ x, (∀ (l : List D) (Q : QD) (E : QX), wR (opIx (.ref r) (.int a) (c.set n (.lst l))) Q E = Q (.int x) (c.set n (.lst l))) ∧ 0 ≤ x := by
        have hl : a.toNat < xs.length := by have := B.a0; omega
        refine ⟨xs[a.toNat], fun l Q E => ?_, B.pos _ (List.getElem_mem hl)⟩
        rw [x_ref]
        unfold getL
        rw [B.row' l]
        have : atI (xs.map D.int) a = some (.int xs[a.toNat]) := by
          unfold atI ixN
          rw [if_pos B.a0, if_pos (by rw [List.length_map]; exact ha)]
          simp [hl]
        dsimp only [Option.bind]
        rw [this]
        rfl
      have a1 : 0 ≤ a + 1 := by have := B.a0; omega
      simp (decide := true) only [↓ss_cons, ↓ss_nil, ↓s_set, ↓s_ret, ↓s_retN, ↓s_expr, ↓s_ife, ↓s_raise, ↓s_cnt, ↓s_brk, ↓s_pass, ↓s_setX, ↓s_for, ↓s_foS, ↓e_k, ↓e_tup, ↓e_lst, ↓e_call, ↓e_blt, ↓e_cmp, ↓e_bin, ↓e_neg, ↓e_and, ↓e_or, ↓e_not, ↓e_ite, ↓e_chain, ↓e_ix, ↓e_isi, ↓e_meth, ↓e_sl, ↓e_lam, ↓e_lc, ↓es_cons, ↓es_nil, ↓o_no, ↓b_add, ↓b_sub, ↓b_subB, ↓b_addB, ↓b_mul, ↓b_div, ↓b_mod, ↓b_pow, ↓b_addT, ↓b_mulT, ↓c_lt, ↓c_le, ↓c_gt, ↓c_ge, ↓c_isB, ↓c_isNotB, ↓c_isN, ↓c_isNotN, ↓t_abs, ↓t_int, ↓t_intB, ↓t_len, ↓t_min, ↓t_max, ↓t_tupT, ↓t_lstT, ↓i_v, ↓i_tup, ↓i_lst, ↓i_call, ↓i_ix, ↓i_sl, ↓lc_nil, ↓lc_cons, ↓w_lcB, ↓fo_nil, ↓fo_cons, ↓ts_nil, ↓ts_cons, ↓t_all, ↓t_any, ↓t_tup, ↓wI_int, ↓wR_ok, ↓v_0, ↓v_1, ↓v_2, ↓v_3, ↓v_4, ↓v_5, ↓v_6, ↓v_7, ↓v_8, ↓v_9, ↓v_10, ↓v_11, ↓v_12, ↓v_13, ↓v_14, ↓v_15, ↓v_16, ↓v_17, ↓v_18, ↓v_19, ↓v_20, ↓v_21, ↓v_22, ↓v_23, ↓v_24, ↓v_25, ↓v_26, ↓v_27, ↓v_28, ↓v_29, ↓v_30, ↓v_31, ↓as_0, ↓as_1, ↓as_2, ↓as_3, ↓as_4, ↓as_5, ↓as_6, ↓as_7, ↓as_8, ↓as_9, ↓as_10, ↓as_11, ↓as_12, ↓as_13, ↓as_14, ↓as_15, ↓as_16, ↓as_17, ↓as_18, ↓as_19, ↓as_20, ↓as_21, ↓as_22, ↓as_23, ↓as_24, ↓as_25, ↓as_26, ↓as_27, ↓as_28, ↓as_29, ↓as_30, ↓as_31, ↓as_t, ↓as_n, ↓as_c, ↓x1_0, ↓x2_0, ↓x2_1, ↓x3_0, ↓x3_1, ↓x3_2, ↓x4_0, ↓x4_1, ↓x4_2, ↓x4_3, ↓x5_0, ↓x5_1, ↓x5_2, ↓x5_3, ↓x5_4, ↓gc_id, ↓gc_bl, ↓gc_bl2, ↓gc_bl3, ↓gc_i, ↓gc_i2, ↓gc_n, ↓gc_n2, ↓gc_ex, ↓gc_ex0, ↓gc_ex2, ↓ce_ii, ↓ce_bb, ↓ce_2, ↓ce_3, ↓cn_ii, ↓cn_bb, ↓cn_2, ↓cn_3, ↓pk_bl, ↓pk_int, ↓pk_tn, ↓pk_tc, ↓pk_non, ↓nb_bl, ↓nb_int, ↓yt_non, ↓yt_bl, ↓yt_int, ↓yt_str, ↓yt_tup, ↓wp_tup, List.length_cons, List.length_nil, lim, Nat.reduceAdd, Nat.reduceLeDiff, true_and, and_true, is_ii, is_ib, is_bi, is_bb, is_tt, is_lt, is_it, is_nt, is_st, is_ni, is_si, is_ti, is_li, Bool.not_true, Bool.not_false, Bool.false_eq_true, if_true, if_false, abs_eq, Int.cast_ofNat_Int, BEq.rfl, beq_iff_eq, Int.reduceBEq, Int.reduceLT, Int.reduceLE, Int.reduceNeg, Int.reduceEq, List.all_cons, List.all_nil, id, Bool.and_true, Bool.true_and, Bool.and_self, same_nil', oc_some, oc_none, bls, wBs_some, wipe, Option.map_some, List.set_cons_zero, List.set_cons_succ, decide_true, decide_false, ↓reduceIte, decide_eq_true_eq, Bool.not_eq_true', ↓bx_0 c n _ _ hn, ↓bx_1 c n _ _ hn, ↓bx_2 c n _ _ hn, ↓bx_3 c n _ _ hn, ↓bs_0 c n _ hn, ↓bs_1 c n _ hn, ↓bs_2 c n _ hn, ↓hlen, ↓hx, ha, hlog, hm]
      have e18 : (10 : Int) ^ Int.toNat 18 = 1000000000000000000 := by decide
      rw [e18]
      split
      · split
        · exact hG _ _ _ _ (mt _).1 (mt _).2 (hdiv _ hx2) a1 (by omega)
        · exact hG _ _ _ _ (mt _).1 (mt _).2 (hdiv _ hx2) a1 (by omega)
      · haveI : Sm 60 x := ⟨by omega⟩
        refine ⟨mulOk_sm (n := 60) (m := 16) (k := (inferInstance : Sm _ (48271 : Int)).mono (by decide)) (by decide), ?_⟩
        exact hG _ _ _ _ (mt _).1 (mt _).2 (by omega) a1 (by omega)
    · have a1 : 0 ≤ a + 1 := by have := B.a0; omega
      simp (decide := true) only [↓ss_cons, ↓ss_nil, ↓s_set, ↓s_ret, ↓s_retN, ↓s_expr, ↓s_ife, ↓s_raise, ↓s_cnt, ↓s_brk, ↓s_pass, ↓s_setX, ↓s_for, ↓s_foS, ↓e_k, ↓e_tup, ↓e_lst, ↓e_call, ↓e_blt, ↓e_cmp, ↓e_bin, ↓e_neg, ↓e_and, ↓e_or, ↓e_not, ↓e_ite, ↓e_chain, ↓e_ix, ↓e_isi, ↓e_meth, ↓e_sl, ↓e_lam, ↓e_lc, ↓es_cons, ↓es_nil, ↓o_no, ↓b_add, ↓b_sub, ↓b_subB, ↓b_addB, ↓b_mul, ↓b_div, ↓b_mod, ↓b_pow, ↓b_addT, ↓b_mulT, ↓c_lt, ↓c_le, ↓c_gt, ↓c_ge, ↓c_isB, ↓c_isNotB, ↓c_isN, ↓c_isNotN, ↓t_abs, ↓t_int, ↓t_intB, ↓t_len, ↓t_min, ↓t_max, ↓t_tupT, ↓t_lstT, ↓i_v, ↓i_tup, ↓i_lst, ↓i_call, ↓i_ix, ↓i_sl, ↓lc_nil, ↓lc_cons, ↓w_lcB, ↓fo_nil, ↓fo_cons, ↓ts_nil, ↓ts_cons, ↓t_all, ↓t_any, ↓t_tup, ↓wI_int, ↓wR_ok, ↓v_0, ↓v_1, ↓v_2, ↓v_3, ↓v_4, ↓v_5, ↓v_6, ↓v_7, ↓v_8, ↓v_9, ↓v_10, ↓v_11, ↓v_12, ↓v_13, ↓v_14, ↓v_15, ↓v_16, ↓v_17, ↓v_18, ↓v_19, ↓v_20, ↓v_21, ↓v_22, ↓v_23, ↓v_24, ↓v_25, ↓v_26, ↓v_27, ↓v_28, ↓v_29, ↓v_30, ↓v_31, ↓as_0, ↓as_1, ↓as_2, ↓as_3, ↓as_4, ↓as_5, ↓as_6, ↓as_7, ↓as_8, ↓as_9, ↓as_10, ↓as_11, ↓as_12, ↓as_13, ↓as_14, ↓as_15, ↓as_16, ↓as_17, ↓as_18, ↓as_19, ↓as_20, ↓as_21, ↓as_22, ↓as_23, ↓as_24, ↓as_25, ↓as_26, ↓as_27, ↓as_28, ↓as_29, ↓as_30, ↓as_31, ↓as_t, ↓as_n, ↓as_c, ↓x1_0, ↓x2_0, ↓x2_1, ↓x3_0, ↓x3_1, ↓x3_2, ↓x4_0, ↓x4_1, ↓x4_2, ↓x4_3, ↓x5_0, ↓x5_1, ↓x5_2, ↓x5_3, ↓x5_4, ↓gc_id, ↓gc_bl, ↓gc_bl2, ↓gc_bl3, ↓gc_i, ↓gc_i2, ↓gc_n, ↓gc_n2, ↓gc_ex, ↓gc_ex0, ↓gc_ex2, ↓ce_ii, ↓ce_bb, ↓ce_2, ↓ce_3, ↓cn_ii, ↓cn_bb, ↓cn_2, ↓cn_3, ↓pk_bl, ↓pk_int, ↓pk_tn, ↓pk_tc, ↓pk_non, ↓nb_bl, ↓nb_int, ↓yt_non, ↓yt_bl, ↓yt_int, ↓yt_str, ↓yt_tup, ↓wp_tup, List.length_cons, List.length_nil, lim, Nat.reduceAdd, Nat.reduceLeDiff, true_and, and_true, is_ii, is_ib, is_bi, is_bb, is_tt, is_lt, is_it, is_nt, is_st, is_ni, is_si, is_ti, is_li, Bool.not_true, Bool.not_false, Bool.false_eq_true, if_true, if_false, abs_eq, Int.cast_ofNat_Int, BEq.rfl, beq_iff_eq, Int.reduceBEq, Int.reduceLT, Int.reduceLE, Int.reduceNeg, Int.reduceEq, List.all_cons, List.all_nil, id, Bool.and_true, Bool.true_and, Bool.and_self, same_nil', oc_some, oc_none, bls, wBs_some, wipe, Option.map_some, List.set_cons_zero, List.set_cons_succ, decide_true, decide_false, ↓reduceIte, decide_eq_true_eq, Bool.not_eq_true', ↓bx_0 c n _ _ hn, ↓bx_1 c n _ _ hn, ↓bx_2 c n _ _ hn, ↓bx_3 c n _ _ hn, ↓bs_0 c n _ hn, ↓bs_1 c n _ hn, ↓bs_2 c n _ hn, ↓hlen, ha, hlog, hm]
      exact hG _ _ _ _ (by omega) hm (by omega) a1 (by omega)
  · by_cases hg2 : 0 < g
    · simp (decide := true) only [↓ss_cons, ↓ss_nil, ↓s_set, ↓s_ret, ↓s_retN, ↓s_expr, ↓s_ife, ↓s_raise, ↓s_cnt, ↓s_brk, ↓s_pass, ↓s_setX, ↓s_for, ↓s_foS, ↓e_k, ↓e_tup, ↓e_lst, ↓e_call, ↓e_blt, ↓e_cmp, ↓e_bin, ↓e_neg, ↓e_and, ↓e_or, ↓e_not, ↓e_ite, ↓e_chain, ↓e_ix, ↓e_isi, ↓e_meth, ↓e_sl, ↓e_lam, ↓e_lc, ↓es_cons, ↓es_nil, ↓o_no, ↓b_add, ↓b_sub, ↓b_subB, ↓b_addB, ↓b_mul, ↓b_div, ↓b_mod, ↓b_pow, ↓b_addT, ↓b_mulT, ↓c_lt, ↓c_le, ↓c_gt, ↓c_ge, ↓c_isB, ↓c_isNotB, ↓c_isN, ↓c_isNotN, ↓t_abs, ↓t_int, ↓t_intB, ↓t_len, ↓t_min, ↓t_max, ↓t_tupT, ↓t_lstT, ↓i_v, ↓i_tup, ↓i_lst, ↓i_call, ↓i_ix, ↓i_sl, ↓lc_nil, ↓lc_cons, ↓w_lcB, ↓fo_nil, ↓fo_cons, ↓ts_nil, ↓ts_cons, ↓t_all, ↓t_any, ↓t_tup, ↓wI_int, ↓wR_ok, ↓v_0, ↓v_1, ↓v_2, ↓v_3, ↓v_4, ↓v_5, ↓v_6, ↓v_7, ↓v_8, ↓v_9, ↓v_10, ↓v_11, ↓v_12, ↓v_13, ↓v_14, ↓v_15, ↓v_16, ↓v_17, ↓v_18, ↓v_19, ↓v_20, ↓v_21, ↓v_22, ↓v_23, ↓v_24, ↓v_25, ↓v_26, ↓v_27, ↓v_28, ↓v_29, ↓v_30, ↓v_31, ↓as_0, ↓as_1, ↓as_2, ↓as_3, ↓as_4, ↓as_5, ↓as_6, ↓as_7, ↓as_8, ↓as_9, ↓as_10, ↓as_11, ↓as_12, ↓as_13, ↓as_14, ↓as_15, ↓as_16, ↓as_17, ↓as_18, ↓as_19, ↓as_20, ↓as_21, ↓as_22, ↓as_23, ↓as_24, ↓as_25, ↓as_26, ↓as_27, ↓as_28, ↓as_29, ↓as_30, ↓as_31, ↓as_t, ↓as_n, ↓as_c, ↓x1_0, ↓x2_0, ↓x2_1, ↓x3_0, ↓x3_1, ↓x3_2, ↓x4_0, ↓x4_1, ↓x4_2, ↓x4_3, ↓x5_0, ↓x5_1, ↓x5_2, ↓x5_3, ↓x5_4, ↓gc_id, ↓gc_bl, ↓gc_bl2, ↓gc_bl3, ↓gc_i, ↓gc_i2, ↓gc_n, ↓gc_n2, ↓gc_ex, ↓gc_ex0, ↓gc_ex2, ↓ce_ii, ↓ce_bb, ↓ce_2, ↓ce_3, ↓cn_ii, ↓cn_bb, ↓cn_2, ↓cn_3, ↓pk_bl, ↓pk_int, ↓pk_tn, ↓pk_tc, ↓pk_non, ↓nb_bl, ↓nb_int, ↓yt_non, ↓yt_bl, ↓yt_int, ↓yt_str, ↓yt_tup, ↓wp_tup, List.length_cons, List.length_nil, lim, Nat.reduceAdd, Nat.reduceLeDiff, true_and, and_true, is_ii, is_ib, is_bi, is_bb, is_tt, is_lt, is_it, is_nt, is_st, is_ni, is_si, is_ti, is_li, Bool.not_true, Bool.not_false, Bool.false_eq_true, if_true, if_false, abs_eq, Int.cast_ofNat_Int, BEq.rfl, beq_iff_eq, Int.reduceBEq, Int.reduceLT, Int.reduceLE, Int.reduceNeg, Int.reduceEq, List.all_cons, List.all_nil, id, Bool.and_true, Bool.true_and, Bool.and_self, same_nil', oc_some, oc_none, bls, wBs_some, wipe, Option.map_some, List.set_cons_zero, List.set_cons_succ, decide_true, decide_false, ↓reduceIte, decide_eq_true_eq, Bool.not_eq_true', ↓bx_0 c n _ _ hn, ↓bx_1 c n _ _ hn, ↓bx_2 c n _ _ hn, ↓bx_3 c n _ _ hn, ↓bs_0 c n _ hn, ↓bs_1 c n _ hn, ↓bs_2 c n _ hn, ↓hlen, hg, hg2, hlog, hm]
      split
      · exact hG _ _ _ _ (mt _).1 (mt _).2 (hdiv _ B.s0) B.a0 (by omega)
      · exact hG _ _ _ _ (mt _).1 (mt _).2 (hdiv _ B.s0) B.a0 (by omega)
    · simp (decide := true) only [↓ss_cons, ↓ss_nil, ↓s_set, ↓s_ret, ↓s_retN, ↓s_expr, ↓s_ife, ↓s_raise, ↓s_cnt, ↓s_brk, ↓s_pass, ↓s_setX, ↓s_for, ↓s_foS, ↓e_k, ↓e_tup, ↓e_lst, ↓e_call, ↓e_blt, ↓e_cmp, ↓e_bin, ↓e_neg, ↓e_and, ↓e_or, ↓e_not, ↓e_ite, ↓e_chain, ↓e_ix, ↓e_isi, ↓e_meth, ↓e_sl, ↓e_lam, ↓e_lc, ↓es_cons, ↓es_nil, ↓o_no, ↓b_add, ↓b_sub, ↓b_subB, ↓b_addB, ↓b_mul, ↓b_div, ↓b_mod, ↓b_pow, ↓b_addT, ↓b_mulT, ↓c_lt, ↓c_le, ↓c_gt, ↓c_ge, ↓c_isB, ↓c_isNotB, ↓c_isN, ↓c_isNotN, ↓t_abs, ↓t_int, ↓t_intB, ↓t_len, ↓t_min, ↓t_max, ↓t_tupT, ↓t_lstT, ↓i_v, ↓i_tup, ↓i_lst, ↓i_call, ↓i_ix, ↓i_sl, ↓lc_nil, ↓lc_cons, ↓w_lcB, ↓fo_nil, ↓fo_cons, ↓ts_nil, ↓ts_cons, ↓t_all, ↓t_any, ↓t_tup, ↓wI_int, ↓wR_ok, ↓v_0, ↓v_1, ↓v_2, ↓v_3, ↓v_4, ↓v_5, ↓v_6, ↓v_7, ↓v_8, ↓v_9, ↓v_10, ↓v_11, ↓v_12, ↓v_13, ↓v_14, ↓v_15, ↓v_16, ↓v_17, ↓v_18, ↓v_19, ↓v_20, ↓v_21, ↓v_22, ↓v_23, ↓v_24, ↓v_25, ↓v_26, ↓v_27, ↓v_28, ↓v_29, ↓v_30, ↓v_31, ↓as_0, ↓as_1, ↓as_2, ↓as_3, ↓as_4, ↓as_5, ↓as_6, ↓as_7, ↓as_8, ↓as_9, ↓as_10, ↓as_11, ↓as_12, ↓as_13, ↓as_14, ↓as_15, ↓as_16, ↓as_17, ↓as_18, ↓as_19, ↓as_20, ↓as_21, ↓as_22, ↓as_23, ↓as_24, ↓as_25, ↓as_26, ↓as_27, ↓as_28, ↓as_29, ↓as_30, ↓as_31, ↓as_t, ↓as_n, ↓as_c, ↓x1_0, ↓x2_0, ↓x2_1, ↓x3_0, ↓x3_1, ↓x3_2, ↓x4_0, ↓x4_1, ↓x4_2, ↓x4_3, ↓x5_0, ↓x5_1, ↓x5_2, ↓x5_3, ↓x5_4, ↓gc_id, ↓gc_bl, ↓gc_bl2, ↓gc_bl3, ↓gc_i, ↓gc_i2, ↓gc_n, ↓gc_n2, ↓gc_ex, ↓gc_ex0, ↓gc_ex2, ↓ce_ii, ↓ce_bb, ↓ce_2, ↓ce_3, ↓cn_ii, ↓cn_bb, ↓cn_2, ↓cn_3, ↓pk_bl, ↓pk_int, ↓pk_tn, ↓pk_tc, ↓pk_non, ↓nb_bl, ↓nb_int, ↓yt_non, ↓yt_bl, ↓yt_int, ↓yt_str, ↓yt_tup, ↓wp_tup, List.length_cons, List.length_nil, lim, Nat.reduceAdd, Nat.reduceLeDiff, true_and, and_true, is_ii, is_ib, is_bi, is_bb, is_tt, is_lt, is_it, is_nt, is_st, is_ni, is_si, is_ti, is_li, Bool.not_true, Bool.not_false, Bool.false_eq_true, if_true, if_false, abs_eq, Int.cast_ofNat_Int, BEq.rfl, beq_iff_eq, Int.reduceBEq, Int.reduceLT, Int.reduceLE, Int.reduceNeg, Int.reduceEq, List.all_cons, List.all_nil, id, Bool.and_true, Bool.true_and, Bool.and_self, same_nil', oc_some, oc_none, bls, wBs_some, wipe, Option.map_some, List.set_cons_zero, List.set_cons_succ, decide_true, decide_false, ↓reduceIte, decide_eq_true_eq, Bool.not_eq_true', ↓bx_0 c n _ _ hn, ↓bx_1 c n _ _ hn, ↓bx_2 c n _ _ hn, ↓bx_3 c n _ _ hn, ↓bs_0 c n _ hn, ↓bs_1 c n _ hn, ↓bs_2 c n _ hn, ↓hlen, hg, hg2, hlog, hm]
      obtain ⟨h60, h9⟩ := B.sm (by omega)
      have h0 := B.s0
      haveI : Sm 60 s := ⟨by omega⟩
      haveI : Sm 10 (g + 1 + 20) := ⟨by omega⟩
      refine ⟨mulOk_sm (n := 60) (m := 16) (k := (inferInstance : Sm _ (48271 : Int)).mono (by decide)) (by decide), mulOk_sm (n := 17) (m := 10) (h := (inferInstance : Sm _ (69621 : Int)).mono (by decide)) (by decide), ?_⟩
      exact hG _ _ _ _ (mt _).1 (mt _).2 (by omega) B.a0 (by omega)
theorem take_e [hf : HasFn T "_law_take" F._law_take] (k : Nat) {c : Cells} {n : Nat} {m : Int} (hb : Bx c n) (hm : 0 < m) (hs : Sm 100 m) : Drew c n (callD T (k + 1) "_law_take" [.ref n, .int m] c) m := by
  obtain ⟨s, g, a, r, xs, B⟩ := hb
  refine drew_of (take_w k B hm hs fun t s' g' a' h1 h2 h3 h4 h5 => ⟨t, _, rfl, rfl, h1, h2, _, _, _, _, _, B.upd h3 h4 h5⟩)
theorem fm_abs : ∀ ns : List Int, (List.map D.int ns).filterMap (fun d => match d with | .int z => some (D.int z.natAbs) | _ => none) = (ns.map fun z => (z.natAbs : Int)).map .int
  | [] => rfl
  | z :: ns => by
    rw [List.map_cons, List.filterMap_cons, List.map_cons, List.map_cons, fm_abs ns]
theorem Bx.lt {c : Cells} {n : Nat} (h : Bx c n) : n < c.length := by
  obtain ⟨_, _, _, _, _, B⟩ := h
  exact (List.getElem?_eq_some_iff.mp B.box).1
theorem Bx.bel {c : Cells} {n : Nat} {l : List D} (h : Bx (c.set n (.lst l)) n) : (Cell.lst l).bel c.length = true := by
  have hn := h.lt
  obtain ⟨s, g, a, r, xs, B⟩ := h
  have e := B.box
  rw [List.getElem?_set_self (by simpa using hn)] at e
  have e2 : l = [.int s, .int g, .int a, .ref r] := by injection e with e; injection e
  have hr := (List.getElem?_eq_some_iff.mp B.row).1
  rw [List.length_set] at hr
  subst e2
  simp [Cell.bel, D.bels, D.bel, hr]
theorem Bx.app {c : Cells} {n : Nat} (h : Bx c n) (g : Cells) : Bx (c ++ g) n := by
  obtain ⟨s, g', a, r, xs, B⟩ := h
  have h1 := (List.getElem?_eq_some_iff.mp B.box).1
  have h2 := (List.getElem?_eq_some_iff.mp B.row).1
  exact ⟨s, g', a, r, xs, by rw [List.getElem?_append_left h1]; exact B.box, B.ne, by rw [List.getElem?_append_left h2]; exact B.row, B.pos, B.s0, B.a0, B.sm⟩
theorem seq {Γ : Ctx} {s : IS} {r : List IS} {ρ : Lo} {c : Cells} {K : SK} (P : Lo → Cells → Prop) (h : ∀ I : Lo → Cells → Prop, (∀ ρ' c', P ρ' c' → I ρ' c') → wS (dS Γ s ρ c) ⟨I, K.rt, K.bk, K.ct, K.ex⟩) (k : ∀ ρ' c', P ρ' c' → wS (dSs Γ r ρ' c') K) : wS (dSs Γ (s :: r) ρ c) K := by
  rw [ss_cons]
  exact h _ k
theorem box_e [hf : HasFn T "_law_box" F._law_box] (k : Nat) (ns : List Int) (s : Cell) (hl : ns.length ≤ 63) (hs : s = .frz (ns.map D.int) ∨ s = .lst (ns.map D.int)) : callD T (k + 1) "_law_box" [.ref 0] [s] = .ok (.ref 2) [s, .lst ((ns.map fun z => (z.natAbs : Int)).map .int), .lst [.int 0, .int 0, .int 0, .ref 1]] := by
  refine eq_of fun Q E hQ => call_body (fn := F._law_box) hf.h rfl ?_
  unfold F._law_box
  show wS (dSs _ _ [some (.ref 0), none, none] [s]) _
  dsimp only
  have hi : ∀ PP : List D × List Nat → Prop, wP (itemsD [s] (.ref 0)) PP = PP (ns.map D.int, [0]) := fun PP => by
    rcases hs with rfl | rfl <;> rfl
  rw [ss_cons, s_ret, e_lst, es_cons, e_k, es_cons, e_k, es_cons, e_k, es_cons, e_lc, i_v, v_0, hi]
  refine go_lc (J := fun c' => c' = [s]) (g := fun d => match d with | .int z => some (.int z.natAbs) | _ => none) (c0 := [s]) rfl (by simp [same]) (fun x hx c' hc _ => ?_) (fun c' hc _ => ?_)
  · subst hc
    obtain ⟨z, _, rfl⟩ := List.mem_map.mp hx
    dsimp only
    simp only [↓ss_cons, ↓ss_nil, ↓s_set, ↓s_ret, ↓s_retN, ↓s_expr, ↓s_ife, ↓s_raise, ↓s_cnt, ↓s_brk, ↓s_pass, ↓s_setX, ↓s_for, ↓s_foS, ↓e_k, ↓e_tup, ↓e_lst, ↓e_call, ↓e_blt, ↓e_cmp, ↓e_bin, ↓e_neg, ↓e_and, ↓e_or, ↓e_not, ↓e_ite, ↓e_chain, ↓e_ix, ↓e_isi, ↓e_meth, ↓e_sl, ↓e_lam, ↓e_lc, ↓es_cons, ↓es_nil, ↓o_no, ↓b_add, ↓b_sub, ↓b_subB, ↓b_addB, ↓b_mul, ↓b_div, ↓b_mod, ↓b_pow, ↓b_addT, ↓b_mulT, ↓c_lt, ↓c_le, ↓c_gt, ↓c_ge, ↓c_isB, ↓c_isNotB, ↓c_isN, ↓c_isNotN, ↓t_abs, ↓t_int, ↓t_intB, ↓t_len, ↓t_min, ↓t_max, ↓t_tupT, ↓t_lstT, ↓i_v, ↓i_tup, ↓i_lst, ↓i_call, ↓i_ix, ↓i_sl, ↓lc_nil, ↓lc_cons, ↓w_lcB, ↓fo_nil, ↓fo_cons, ↓ts_nil, ↓ts_cons, ↓t_all, ↓t_any, ↓t_tup, ↓wI_int, ↓wR_ok, ↓v_0, ↓v_1, ↓v_2, ↓v_3, ↓v_4, ↓v_5, ↓v_6, ↓v_7, ↓v_8, ↓v_9, ↓v_10, ↓v_11, ↓v_12, ↓v_13, ↓v_14, ↓v_15, ↓v_16, ↓v_17, ↓v_18, ↓v_19, ↓v_20, ↓v_21, ↓v_22, ↓v_23, ↓v_24, ↓v_25, ↓v_26, ↓v_27, ↓v_28, ↓v_29, ↓v_30, ↓v_31, ↓as_0, ↓as_1, ↓as_2, ↓as_3, ↓as_4, ↓as_5, ↓as_6, ↓as_7, ↓as_8, ↓as_9, ↓as_10, ↓as_11, ↓as_12, ↓as_13, ↓as_14, ↓as_15, ↓as_16, ↓as_17, ↓as_18, ↓as_19, ↓as_20, ↓as_21, ↓as_22, ↓as_23, ↓as_24, ↓as_25, ↓as_26, ↓as_27, ↓as_28, ↓as_29, ↓as_30, ↓as_31, ↓as_t, ↓as_n, ↓as_c, ↓x1_0, ↓x2_0, ↓x2_1, ↓x3_0, ↓x3_1, ↓x3_2, ↓x4_0, ↓x4_1, ↓x4_2, ↓x4_3, ↓x5_0, ↓x5_1, ↓x5_2, ↓x5_3, ↓x5_4, ↓gc_id, ↓gc_bl, ↓gc_bl2, ↓gc_bl3, ↓gc_i, ↓gc_i2, ↓gc_n, ↓gc_n2, ↓gc_ex, ↓gc_ex0, ↓gc_ex2, ↓ce_ii, ↓ce_bb, ↓ce_2, ↓ce_3, ↓cn_ii, ↓cn_bb, ↓cn_2, ↓cn_3, ↓pk_bl, ↓pk_int, ↓pk_tn, ↓pk_tc, ↓pk_non, ↓nb_bl, ↓nb_int, ↓yt_non, ↓yt_bl, ↓yt_int, ↓yt_str, ↓yt_tup, ↓wp_tup, List.length_cons, List.length_nil, lim, Nat.reduceAdd, Nat.reduceLeDiff, true_and, and_true, is_ii, is_ib, is_bi, is_bb, is_tt, is_lt, is_it, is_nt, is_st, is_ni, is_si, is_ti, is_li, Bool.not_true, Bool.not_false, Bool.false_eq_true, if_true, if_false, abs_eq, Int.cast_ofNat_Int, BEq.rfl, beq_iff_eq, Int.reduceBEq, Int.reduceLT, Int.reduceLE, Int.reduceNeg, Int.reduceEq, List.all_cons, List.all_nil, id, Bool.and_true, Bool.true_and, Bool.and_self, same_nil', oc_some, oc_none, bls, wBs_some, wipe, Option.map_some, List.set_cons_zero, List.set_cons_succ, decide_true, decide_false, ↓reduceIte, decide_eq_true_eq, Bool.not_eq_true', ↓as_2]
    simp [same]
  · subst hc
    rw [fm_abs]
    refine ⟨by simp [lim]; omega, ?_⟩
    rw [es_nil]
    refine ⟨by simp [lim], ?_⟩
    have : gcR [s] (R.ok (.ref 2) [s, .lst ((ns.map fun z => (z.natAbs : Int)).map .int), .lst [.int 0, .int 0, .int 0, .ref 1]]) = .ok (.ref 2) [s, .lst ((ns.map fun z => (z.natAbs : Int)).map .int), .lst [.int 0, .int 0, .int 0, .ref 1]] := by
      unfold gcR
      dsimp only
      have hk : kept [s] [s, .lst ((ns.map fun z => (z.natAbs : Int)).map .int), .lst [.int 0, .int 0, .int 0, .ref 1]] = true := kept_app [s] [.lst ((ns.map fun z => (z.natAbs : Int)).map .int), .lst [.int 0, .int 0, .int 0, .ref 1]]
      rw [if_pos hk]
      rfl
    show wR (gcR [s] (R.ok (.ref 2) [s, .lst ((ns.map fun z => (z.natAbs : Int)).map .int), .lst [.int 0, .int 0, .int 0, .ref 1]])) Q E
    rw [this]
    exact hQ
theorem box_bx (s : Cell) (ns : List Int) : Bx [s, .lst ((ns.map fun z => (z.natAbs : Int)).map .int), .lst [.int 0, .int 0, .int 0, .ref 1]] 2 :=
  ⟨0, 0, 0, 1, ns.map fun z => (z.natAbs : Int), ⟨rfl, by decide, rfl, fun x hx => by
    obtain ⟨z, _, rfl⟩ := List.mem_map.mp hx
    omega, by omega, by omega, by omega⟩⟩
theorem lpoint_e [hf : HasFn T "_law_point" F._law_point] [HasFn T "_law_take" F._law_take] [HasFn T "_law_made" (F.made "_law_common")] [HasFn T "_law_common" F.common] (k : Nat) {c : Cells} {n : Nat} {far : Int} (hb : Bx c n) (h1 : 0 < far) (h2 : far < 100) :
    ∃ (p : Pn) (l : List D), callD T (k + 3) "_law_point" [.ref n, .int far] c = .ok p.d (c.set n (.lst l)) ∧ Pt p.x p.y p.w ∧ Sm 10 p.x ∧ Sm 10 p.y ∧ Sm 10 p.w ∧ Bx (c.set n (.lst l)) n := by
  haveI : Sm 10 far := ⟨by omega⟩
  obtain ⟨t1, l1, e1, p1, p2, b1⟩ := take_e (T := T) (k + 1) (m := 2 * far + 1) hb (by omega) ⟨by omega⟩
  obtain ⟨t2, l2, e2, p3, p4, b2⟩ := take_e (T := T) (k + 1) (m := 2 * far + 1) b1 (by omega) ⟨by omega⟩
  obtain ⟨t3, l3, e3, p5, p6, b3⟩ := take_e (T := T) (k + 1) (m := 5) b2 (by omega) ⟨by omega⟩
  obtain ⟨t4, l4, e4, p7, p8, b4⟩ := take_e (T := T) (k + 1) (m := 4) b3 (by omega) ⟨by omega⟩
  simp only [List.set_set] at e2 b2 e3 b3 e4 b4
  haveI : Sm 10 (t1 - far) := ⟨by omega⟩
  haveI : Sm 10 (t2 - far) := ⟨by omega⟩
  haveI : Sm 10 (1 + t4) := ⟨by omega⟩
  have hm : mulOk 2 far = true := mulOk_sm (n := 2) (m := 10) (h := ⟨by decide⟩) (by decide)
  have key : callD T (k + 3) "_law_point" [.ref n, .int far] c = if 0 < t3 then .ok (Pn.mk (t1 - far) (t2 - far) 1).d (c.set n (.lst l3)) else .ok (mkP (t1 - far) (t2 - far) (1 + t4)).d (c.set n (.lst l4)) := by
    by_cases h : 0 < t3
    · rw [if_pos h]
      refine eq_of fun Q E hQ => call_body (fn := F._law_point) hf.h rfl ?_
      unfold F._law_point
      show wS (dSs _ _ [some (.ref n), some (.int far), none, none] c) _
      dsimp only
      simp (decide := true) only [↓ss_cons, ↓ss_nil, ↓s_set, ↓s_ret, ↓s_retN, ↓s_expr, ↓s_ife, ↓s_raise, ↓s_cnt, ↓s_brk, ↓s_pass, ↓s_setX, ↓s_for, ↓s_foS, ↓e_k, ↓e_tup, ↓e_lst, ↓e_call, ↓e_blt, ↓e_cmp, ↓e_bin, ↓e_neg, ↓e_and, ↓e_or, ↓e_not, ↓e_ite, ↓e_chain, ↓e_ix, ↓e_isi, ↓e_meth, ↓e_sl, ↓e_lam, ↓e_lc, ↓es_cons, ↓es_nil, ↓o_no, ↓b_add, ↓b_sub, ↓b_subB, ↓b_addB, ↓b_mul, ↓b_div, ↓b_mod, ↓b_pow, ↓b_addT, ↓b_mulT, ↓c_lt, ↓c_le, ↓c_gt, ↓c_ge, ↓c_isB, ↓c_isNotB, ↓c_isN, ↓c_isNotN, ↓t_abs, ↓t_int, ↓t_intB, ↓t_len, ↓t_min, ↓t_max, ↓t_tupT, ↓t_lstT, ↓i_v, ↓i_tup, ↓i_lst, ↓i_call, ↓i_ix, ↓i_sl, ↓lc_nil, ↓lc_cons, ↓w_lcB, ↓fo_nil, ↓fo_cons, ↓ts_nil, ↓ts_cons, ↓t_all, ↓t_any, ↓t_tup, ↓wI_int, ↓wR_ok, ↓v_0, ↓v_1, ↓v_2, ↓v_3, ↓v_4, ↓v_5, ↓v_6, ↓v_7, ↓v_8, ↓v_9, ↓v_10, ↓v_11, ↓v_12, ↓v_13, ↓v_14, ↓v_15, ↓v_16, ↓v_17, ↓v_18, ↓v_19, ↓v_20, ↓v_21, ↓v_22, ↓v_23, ↓v_24, ↓v_25, ↓v_26, ↓v_27, ↓v_28, ↓v_29, ↓v_30, ↓v_31, ↓as_0, ↓as_1, ↓as_2, ↓as_3, ↓as_4, ↓as_5, ↓as_6, ↓as_7, ↓as_8, ↓as_9, ↓as_10, ↓as_11, ↓as_12, ↓as_13, ↓as_14, ↓as_15, ↓as_16, ↓as_17, ↓as_18, ↓as_19, ↓as_20, ↓as_21, ↓as_22, ↓as_23, ↓as_24, ↓as_25, ↓as_26, ↓as_27, ↓as_28, ↓as_29, ↓as_30, ↓as_31, ↓as_t, ↓as_n, ↓as_c, ↓x1_0, ↓x2_0, ↓x2_1, ↓x3_0, ↓x3_1, ↓x3_2, ↓x4_0, ↓x4_1, ↓x4_2, ↓x4_3, ↓x5_0, ↓x5_1, ↓x5_2, ↓x5_3, ↓x5_4, ↓gc_id, ↓gc_bl, ↓gc_bl2, ↓gc_bl3, ↓gc_i, ↓gc_i2, ↓gc_n, ↓gc_n2, ↓gc_ex, ↓gc_ex0, ↓gc_ex2, ↓ce_ii, ↓ce_bb, ↓ce_2, ↓ce_3, ↓cn_ii, ↓cn_bb, ↓cn_2, ↓cn_3, ↓pk_bl, ↓pk_int, ↓pk_tn, ↓pk_tc, ↓pk_non, ↓nb_bl, ↓nb_int, ↓yt_non, ↓yt_bl, ↓yt_int, ↓yt_str, ↓yt_tup, ↓wp_tup, List.length_cons, List.length_nil, lim, Nat.reduceAdd, Nat.reduceLeDiff, true_and, and_true, is_ii, is_ib, is_bi, is_bb, is_tt, is_lt, is_it, is_nt, is_st, is_ni, is_si, is_ti, is_li, Bool.not_true, Bool.not_false, Bool.false_eq_true, if_true, if_false, abs_eq, Int.cast_ofNat_Int, BEq.rfl, beq_iff_eq, Int.reduceBEq, Int.reduceLT, Int.reduceLE, Int.reduceNeg, Int.reduceEq, List.all_cons, List.all_nil, id, Bool.and_true, Bool.true_and, Bool.and_self, same_nil', oc_some, oc_none, bls, wBs_some, wipe, Option.map_some, List.set_cons_zero, List.set_cons_succ, decide_true, decide_false, ↓reduceIte, decide_eq_true_eq, Bool.not_eq_true', hm, ↓w_of _ _ e1, ↓w_of _ _ e2, ↓w_of _ _ e3, h]
      rw [gc_set0 _ _ _ _ _ _ b3.bel (by simp [D.nr, D.nrs])]
      exact hQ
    · rw [if_neg h]
      refine eq_of fun Q E hQ => call_body (fn := F._law_point) hf.h rfl ?_
      unfold F._law_point
      show wS (dSs _ _ [some (.ref n), some (.int far), none, none] c) _
      dsimp only
      have e5 := fun c => made_e (T := T) k c "_law_made" "_law_common" (t1 - far) (t2 - far) (1 + t4) (by decide) (by omega)
      simp (decide := true) only [↓ss_cons, ↓ss_nil, ↓s_set, ↓s_ret, ↓s_retN, ↓s_expr, ↓s_ife, ↓s_raise, ↓s_cnt, ↓s_brk, ↓s_pass, ↓s_setX, ↓s_for, ↓s_foS, ↓e_k, ↓e_tup, ↓e_lst, ↓e_call, ↓e_blt, ↓e_cmp, ↓e_bin, ↓e_neg, ↓e_and, ↓e_or, ↓e_not, ↓e_ite, ↓e_chain, ↓e_ix, ↓e_isi, ↓e_meth, ↓e_sl, ↓e_lam, ↓e_lc, ↓es_cons, ↓es_nil, ↓o_no, ↓b_add, ↓b_sub, ↓b_subB, ↓b_addB, ↓b_mul, ↓b_div, ↓b_mod, ↓b_pow, ↓b_addT, ↓b_mulT, ↓c_lt, ↓c_le, ↓c_gt, ↓c_ge, ↓c_isB, ↓c_isNotB, ↓c_isN, ↓c_isNotN, ↓t_abs, ↓t_int, ↓t_intB, ↓t_len, ↓t_min, ↓t_max, ↓t_tupT, ↓t_lstT, ↓i_v, ↓i_tup, ↓i_lst, ↓i_call, ↓i_ix, ↓i_sl, ↓lc_nil, ↓lc_cons, ↓w_lcB, ↓fo_nil, ↓fo_cons, ↓ts_nil, ↓ts_cons, ↓t_all, ↓t_any, ↓t_tup, ↓wI_int, ↓wR_ok, ↓v_0, ↓v_1, ↓v_2, ↓v_3, ↓v_4, ↓v_5, ↓v_6, ↓v_7, ↓v_8, ↓v_9, ↓v_10, ↓v_11, ↓v_12, ↓v_13, ↓v_14, ↓v_15, ↓v_16, ↓v_17, ↓v_18, ↓v_19, ↓v_20, ↓v_21, ↓v_22, ↓v_23, ↓v_24, ↓v_25, ↓v_26, ↓v_27, ↓v_28, ↓v_29, ↓v_30, ↓v_31, ↓as_0, ↓as_1, ↓as_2, ↓as_3, ↓as_4, ↓as_5, ↓as_6, ↓as_7, ↓as_8, ↓as_9, ↓as_10, ↓as_11, ↓as_12, ↓as_13, ↓as_14, ↓as_15, ↓as_16, ↓as_17, ↓as_18, ↓as_19, ↓as_20, ↓as_21, ↓as_22, ↓as_23, ↓as_24, ↓as_25, ↓as_26, ↓as_27, ↓as_28, ↓as_29, ↓as_30, ↓as_31, ↓as_t, ↓as_n, ↓as_c, ↓x1_0, ↓x2_0, ↓x2_1, ↓x3_0, ↓x3_1, ↓x3_2, ↓x4_0, ↓x4_1, ↓x4_2, ↓x4_3, ↓x5_0, ↓x5_1, ↓x5_2, ↓x5_3, ↓x5_4, ↓gc_id, ↓gc_bl, ↓gc_bl2, ↓gc_bl3, ↓gc_i, ↓gc_i2, ↓gc_n, ↓gc_n2, ↓gc_ex, ↓gc_ex0, ↓gc_ex2, ↓ce_ii, ↓ce_bb, ↓ce_2, ↓ce_3, ↓cn_ii, ↓cn_bb, ↓cn_2, ↓cn_3, ↓pk_bl, ↓pk_int, ↓pk_tn, ↓pk_tc, ↓pk_non, ↓nb_bl, ↓nb_int, ↓yt_non, ↓yt_bl, ↓yt_int, ↓yt_str, ↓yt_tup, ↓wp_tup, List.length_cons, List.length_nil, lim, Nat.reduceAdd, Nat.reduceLeDiff, true_and, and_true, is_ii, is_ib, is_bi, is_bb, is_tt, is_lt, is_it, is_nt, is_st, is_ni, is_si, is_ti, is_li, Bool.not_true, Bool.not_false, Bool.false_eq_true, if_true, if_false, abs_eq, Int.cast_ofNat_Int, BEq.rfl, beq_iff_eq, Int.reduceBEq, Int.reduceLT, Int.reduceLE, Int.reduceNeg, Int.reduceEq, List.all_cons, List.all_nil, id, Bool.and_true, Bool.true_and, Bool.and_self, same_nil', oc_some, oc_none, bls, wBs_some, wipe, Option.map_some, List.set_cons_zero, List.set_cons_succ, decide_true, decide_false, ↓reduceIte, decide_eq_true_eq, Bool.not_eq_true', hm, ↓w_of _ _ e1, ↓w_of _ _ e2, ↓w_of _ _ e3, ↓w_of _ _ e4, ↓w_of _ _ (e5 _), h]
      rw [gc_set0 _ _ _ _ _ _ b4.bel (Pn.nr _)]
      exact hQ
  by_cases h : 0 < t3
  · rw [if_pos h] at key
    exact ⟨_, _, key, ⟨by show (0 : Int) < 1; omega, by show g3 _ _ 1 = 1; unfold g3; simp⟩, inferInstanceAs (Sm 10 (t1 - far)), inferInstanceAs (Sm 10 (t2 - far)), (⟨by decide⟩ : Sm 10 (1 : Int)), b3⟩
  · rw [if_neg h] at key
    exact ⟨_, _, key, mkP_pt _ _ (by omega), inferInstanceAs (Sm 10 (m1 _ _ _)), inferInstanceAs (Sm 10 (m2 _ _ _)), inferInstanceAs (Sm 10 (m3 _ _ _)), b4⟩
theorem lpick_e [hf : HasFn T "_law_pick" F._law_pick] [HasFn T "_law_take" F._law_take] (k : Nat) {c : Cells} {n r : Nat} {xs : List D} (hb : Bx c n) (hr : c[r]? = some (.lst xs)) (hne : r ≠ n) (h0 : 0 < xs.length) (h1 : xs.length < 100) (hnr : ∀ x ∈ xs, x.bel c.length = true) : ∃ d l, callD T (k + 2) "_law_pick" [.ref n, .ref r] c = .ok d (c.set n (.lst l)) ∧ d ∈ xs ∧ Bx (c.set n (.lst l)) n := by
  obtain ⟨t1, l1, e1, p1, p2, b1⟩ := take_e (T := T) k (m := xs.length) hb (by omega) ⟨by omega⟩
  have ht : t1.toNat < xs.length := by omega
  refine ⟨xs[t1.toNat], l1, eq_of fun Q E hQ => call_body (fn := F._law_pick) hf.h rfl ?_, List.getElem_mem ht, b1⟩
  unfold F._law_pick
  show wS (dSs _ _ [some (.ref n), some (.ref r)] c) _
  dsimp only
  have hlen : ∀ (Q : QD) (E : QX), wR (opBlt .len [.ref r] c) Q E = Q (.int (xs.length : Int)) c := fun Q E => t_lenR _ _ _ _ _ hr
  have hx : ∀ (Q : QD) (E : QX), wR (opIx (.ref r) (.int t1) (c.set n (.lst l1))) Q E = Q xs[t1.toNat] (c.set n (.lst l1)) := fun Q E => by
    rw [x_ref]
    unfold getL
    rw [List.getElem?_set_ne (Ne.symm hne), hr]
    have : atI xs t1 = some xs[t1.toNat] := by
      unfold atI ixN
      rw [if_pos p1, if_pos p2]
      simp [ht]
    dsimp only [Option.bind]
    rw [this]
    rfl
  simp (decide := true) only [↓ss_cons, ↓ss_nil, ↓s_set, ↓s_ret, ↓s_retN, ↓s_expr, ↓s_ife, ↓s_raise, ↓s_cnt, ↓s_brk, ↓s_pass, ↓s_setX, ↓s_for, ↓s_foS, ↓e_k, ↓e_tup, ↓e_lst, ↓e_call, ↓e_blt, ↓e_cmp, ↓e_bin, ↓e_neg, ↓e_and, ↓e_or, ↓e_not, ↓e_ite, ↓e_chain, ↓e_ix, ↓e_isi, ↓e_meth, ↓e_sl, ↓e_lam, ↓e_lc, ↓es_cons, ↓es_nil, ↓o_no, ↓b_add, ↓b_sub, ↓b_subB, ↓b_addB, ↓b_mul, ↓b_div, ↓b_mod, ↓b_pow, ↓b_addT, ↓b_mulT, ↓c_lt, ↓c_le, ↓c_gt, ↓c_ge, ↓c_isB, ↓c_isNotB, ↓c_isN, ↓c_isNotN, ↓t_abs, ↓t_int, ↓t_intB, ↓t_len, ↓t_min, ↓t_max, ↓t_tupT, ↓t_lstT, ↓i_v, ↓i_tup, ↓i_lst, ↓i_call, ↓i_ix, ↓i_sl, ↓lc_nil, ↓lc_cons, ↓w_lcB, ↓fo_nil, ↓fo_cons, ↓ts_nil, ↓ts_cons, ↓t_all, ↓t_any, ↓t_tup, ↓wI_int, ↓wR_ok, ↓v_0, ↓v_1, ↓v_2, ↓v_3, ↓v_4, ↓v_5, ↓v_6, ↓v_7, ↓v_8, ↓v_9, ↓v_10, ↓v_11, ↓v_12, ↓v_13, ↓v_14, ↓v_15, ↓v_16, ↓v_17, ↓v_18, ↓v_19, ↓v_20, ↓v_21, ↓v_22, ↓v_23, ↓v_24, ↓v_25, ↓v_26, ↓v_27, ↓v_28, ↓v_29, ↓v_30, ↓v_31, ↓as_0, ↓as_1, ↓as_2, ↓as_3, ↓as_4, ↓as_5, ↓as_6, ↓as_7, ↓as_8, ↓as_9, ↓as_10, ↓as_11, ↓as_12, ↓as_13, ↓as_14, ↓as_15, ↓as_16, ↓as_17, ↓as_18, ↓as_19, ↓as_20, ↓as_21, ↓as_22, ↓as_23, ↓as_24, ↓as_25, ↓as_26, ↓as_27, ↓as_28, ↓as_29, ↓as_30, ↓as_31, ↓as_t, ↓as_n, ↓as_c, ↓x1_0, ↓x2_0, ↓x2_1, ↓x3_0, ↓x3_1, ↓x3_2, ↓x4_0, ↓x4_1, ↓x4_2, ↓x4_3, ↓x5_0, ↓x5_1, ↓x5_2, ↓x5_3, ↓x5_4, ↓gc_id, ↓gc_bl, ↓gc_bl2, ↓gc_bl3, ↓gc_i, ↓gc_i2, ↓gc_n, ↓gc_n2, ↓gc_ex, ↓gc_ex0, ↓gc_ex2, ↓ce_ii, ↓ce_bb, ↓ce_2, ↓ce_3, ↓cn_ii, ↓cn_bb, ↓cn_2, ↓cn_3, ↓pk_bl, ↓pk_int, ↓pk_tn, ↓pk_tc, ↓pk_non, ↓nb_bl, ↓nb_int, ↓yt_non, ↓yt_bl, ↓yt_int, ↓yt_str, ↓yt_tup, ↓wp_tup, List.length_cons, List.length_nil, lim, Nat.reduceAdd, Nat.reduceLeDiff, true_and, and_true, is_ii, is_ib, is_bi, is_bb, is_tt, is_lt, is_it, is_nt, is_st, is_ni, is_si, is_ti, is_li, Bool.not_true, Bool.not_false, Bool.false_eq_true, if_true, if_false, abs_eq, Int.cast_ofNat_Int, BEq.rfl, beq_iff_eq, Int.reduceBEq, Int.reduceLT, Int.reduceLE, Int.reduceNeg, Int.reduceEq, List.all_cons, List.all_nil, id, Bool.and_true, Bool.true_and, Bool.and_self, same_nil', oc_some, oc_none, bls, wBs_some, wipe, Option.map_some, List.set_cons_zero, List.set_cons_succ, decide_true, decide_false, ↓reduceIte, decide_eq_true_eq, Bool.not_eq_true', ↓hlen, ↓w_of _ _ e1, ↓hx]
  rw [gc_setB _ _ _ _ _ _ b1.bel (hnr _ (List.getElem_mem ht))]
  exact hQ
end G
end

section
set_option linter.all false
set_option autoImplicit false
set_option maxRecDepth 20000
/-! MC: what two segments have in common, in plain numbers. -/
namespace G
abbrev Pn.V (p : Pn) : Prop := Pt p.x p.y p.w
/-! ### the order of points -/
theorem cmpP_anti (p q : Pn) : cmpP q p = -cmpP p q := by
  unfold cmpP cmpv
  generalize p.x * q.w = A
  generalize q.x * p.w = B
  generalize p.y * q.w = C
  generalize q.y * p.w = D
  (repeat' split) <;> omega
theorem cmpP_zero {p q : Pn} (hp : p.V) (hq : q.V) : cmpP p q = 0 ↔ p = q := by
  constructor
  · intro h
    have : p.x * q.w = q.x * p.w ∧ p.y * q.w = q.y * p.w := by
      unfold cmpP cmpv at h
      generalize p.x * q.w = A at *
      generalize q.x * p.w = B at *
      generalize p.y * q.w = C at *
      generalize q.y * p.w = D at *
      revert h
      (repeat' split) <;> omega
    have h0 : p.w ≠ 0 := by have := hp.pos; omega
    have := (mkP_iff h0 hq).mpr ⟨this.1, this.2⟩
    rw [← this, mkP_self hp]
  · rintro rfl
    unfold cmpP cmpv
    simp
theorem cmpP_lt {p q : Pn} : cmpP p q < 0 ↔ p.x * q.w < q.x * p.w ∨ (p.x * q.w = q.x * p.w ∧ p.y * q.w < q.y * p.w) := by
  unfold cmpP cmpv
  generalize p.x * q.w = A
  generalize q.x * p.w = B
  generalize p.y * q.w = C
  generalize q.y * p.w = D
  (repeat' split) <;> omega
theorem mul_lt_trans {a b c u v w : Int} (hu : 0 < u) (hv : 0 < v) (hw : 0 < w) (h1 : a * v < b * u) (h2 : b * w ≤ c * v) : a * w < c * u := by
  have e1 : (a * v) * w < (b * u) * w := Int.mul_lt_mul_of_pos_right h1 hw
  have e2 : (b * w) * u ≤ (c * v) * u := Int.mul_le_mul_of_nonneg_right h2 (by omega)
  refine Int.lt_of_mul_lt_mul_left (a := v) ?_ (by omega)
  have e3 : v * (a * w) = a * v * w := by grind
  have e4 : v * (c * u) = c * v * u := by grind
  have e5 : b * u * w = b * w * u := by grind
  omega
theorem mul_le_trans {a b c u v w : Int} (hu : 0 < u) (hv : 0 < v) (hw : 0 < w) (h1 : a * v ≤ b * u) (h2 : b * w ≤ c * v) : a * w ≤ c * u := by
  have e1 : (a * v) * w ≤ (b * u) * w := Int.mul_le_mul_of_nonneg_right h1 (by omega)
  have e2 : (b * w) * u ≤ (c * v) * u := Int.mul_le_mul_of_nonneg_right h2 (by omega)
  refine Int.le_of_mul_le_mul_left (a := v) ?_ hv
  have e3 : v * (a * w) = a * v * w := by grind
  have e4 : v * (c * u) = c * v * u := by grind
  have e5 : b * u * w = b * w * u := by grind
  omega
theorem cmpP_trans {p q r : Pn} (hp : p.V) (hq : q.V) (hr : r.V) (h1 : cmpP p q < 0) (h2 : cmpP q r < 0) : cmpP p r < 0 := by
  have a := hp.pos
  have b := hq.pos
  have c := hr.pos
  rw [cmpP_lt] at *
  rcases h1 with h1 | ⟨h1, h1'⟩
  · rcases h2 with h2 | ⟨h2, _⟩
    · exact .inl (mul_lt_trans a b c h1 (by omega))
    · exact .inl (mul_lt_trans a b c h1 (by omega))
  · rcases h2 with h2 | ⟨h2, h2'⟩
    · refine .inl ?_
      have := mul_lt_trans (a := -r.x) (b := -q.x) (c := -p.x) (u := r.w) (v := q.w) (w := p.w) c b a (by rw [Int.neg_mul, Int.neg_mul]; omega) (by rw [Int.neg_mul, Int.neg_mul]; omega)
      rw [Int.neg_mul, Int.neg_mul] at this
      omega
    · refine .inr ⟨Int.le_antisymm (mul_le_trans (b := q.x) a b c (by omega) (by omega)) (mul_le_trans (b := q.x) c b a (by omega) (by omega)), mul_lt_trans a b c h1' (by omega)⟩
/-- how many of some points stand ahead -/
def rank (L : List Pn) (p : Pn) : Int := (L.filter fun x => decide (cmpP x p < 0)).length
theorem rank_le {L : List Pn} {p q : Pn} (h : ∀ x ∈ L, cmpP x p < 0 → cmpP x q < 0) : rank L p ≤ rank L q := by
  unfold rank
  induction L with
  | nil => simp
  | cons y L ih =>
    have ih := ih fun x hx => h x (List.mem_cons_of_mem _ hx)
    have h0 := h y List.mem_cons_self
    simp only [List.filter_cons]
    by_cases h1 : cmpP y p < 0
    · rw [if_pos (by simpa using h1), if_pos (by simpa using h0 h1)]
      simp only [List.length_cons]; omega
    · rw [if_neg (by simpa using h1)]
      split
      · simp only [List.length_cons]; omega
      · exact ih
theorem rank_lt' {L : List Pn} {p q : Pn} (h : ∀ x ∈ L, cmpP x p < 0 → cmpP x q < 0) (hm : p ∈ L) (h1 : ¬ cmpP p p < 0) (h2 : cmpP p q < 0) : rank L p < rank L q := by
  induction L with
  | nil => cases hm
  | cons y L ih =>
    have hl := rank_le (L := L) (p := p) (q := q) fun x hx => h x (List.mem_cons_of_mem _ hx)
    have h0 := h y List.mem_cons_self
    unfold rank at *
    simp only [List.filter_cons]
    by_cases e : y = p
    · subst e
      rw [if_neg (by simpa using h1), if_pos (by simpa using h2)]
      simp only [List.length_cons]; omega
    · have ih := ih (fun x hx => h x (List.mem_cons_of_mem _ hx)) ((List.mem_cons.mp hm).resolve_left (Ne.symm e))
      by_cases h3 : cmpP y p < 0
      · rw [if_pos (by simpa using h3), if_pos (by simpa using h0 h3)]
        simp only [List.length_cons]; omega
      · rw [if_neg (by simpa using h3)]
        split
        · simp only [List.length_cons]; omega
        · exact ih
theorem cmpP_self (p : Pn) : cmpP p p = 0 := by unfold cmpP cmpv; simp
/-- points are ordered as their ranks are -/
theorem rank_iff {L : List Pn} (hL : ∀ x ∈ L, x.V) {p q : Pn} (hp : p ∈ L) (hq : q ∈ L) : (cmpP p q < 0 ↔ rank L p < rank L q) ∧ (p = q ↔ rank L p = rank L q) ∧ (0 < cmpP p q ↔ rank L q < rank L p) := by
  have key : ∀ {p q : Pn}, p ∈ L → q ∈ L → cmpP p q < 0 → rank L p < rank L q := fun {p q} hp hq h =>
    rank_lt' (fun x hx hxp => cmpP_trans (hL x hx) (hL p hp) (hL q hq) hxp h) hp (by rw [cmpP_self]; omega) h
  have a := cmpP_anti p q
  have z := cmpP_zero (hL p hp) (hL q hq)
  rcases Int.lt_trichotomy (cmpP p q) 0 with h | h | h
  · have := key hp hq h
    refine ⟨by omega, ⟨fun e => ?_, fun e => by omega⟩, by omega⟩
    subst e; omega
  · have e := z.mp h
    subst e
    exact ⟨by omega, by simp, by omega⟩
  · have := key hq hp (by omega)
    refine ⟨by omega, ⟨fun e => ?_, fun e => by omega⟩, by omega⟩
    subst e; omega
/-! ### determinants -/
theorem sgn_pos {i : Int} : 0 < sgn i ↔ 0 < i := by unfold sgn b2i; (by_cases h1 : 0 < i <;> by_cases h2 : i < 0 <;> simp [h1, h2]); omega
theorem sgn_lt {i : Int} : sgn i < 0 ↔ i < 0 := by unfold sgn b2i; (by_cases h1 : 0 < i <;> by_cases h2 : i < 0 <;> simp [h1, h2]); omega
theorem sgn_zero {i : Int} : sgn i = 0 ↔ i = 0 := by
  have := sgn_pos (i := i)
  have := sgn_lt (i := i)
  omega
theorem sgn_mul_pos {i j : Int} : 0 < sgn i * sgn j ↔ 0 < i * j := by
  rcases Int.lt_trichotomy i 0 with h | h | h <;> rcases Int.lt_trichotomy j 0 with h' | h' | h'
  · exact iff_of_true (Int.mul_pos_of_neg_of_neg (sgn_lt.mpr h) (sgn_lt.mpr h')) (Int.mul_pos_of_neg_of_neg h h')
  · subst h'; simp [show sgn 0 = 0 from rfl]
  · have := Int.mul_neg_of_neg_of_pos h h'
    have := Int.mul_neg_of_neg_of_pos (sgn_lt.mpr h) (sgn_pos.mpr h')
    omega
  · subst h; simp [show sgn 0 = 0 from rfl]
  · subst h; simp [show sgn 0 = 0 from rfl]
  · subst h; simp [show sgn 0 = 0 from rfl]
  · have := Int.mul_neg_of_pos_of_neg h h'
    have := Int.mul_neg_of_pos_of_neg (sgn_pos.mpr h) (sgn_lt.mpr h')
    omega
  · subst h'; simp [show sgn 0 = 0 from rfl]
  · exact iff_of_true (Int.mul_pos (sgn_pos.mpr h) (sgn_pos.mpr h')) (Int.mul_pos h h')
theorem det_swap (a b d : Pn) : detP b a d = -detP a b d := by unfold detP det; grind
theorem det_rot' (a b d : Pn) : detP b d a = detP a b d := by unfold detP det; grind
theorem det_abb (a b : Pn) : detP a b b = 0 := by unfold detP det; grind
theorem det_aba (a b : Pn) : detP a b a = 0 := by unfold detP det; grind
/-- four points hang together -/
theorem det_four (a b c d : Pn) : detP a b d * c.x - detP a b c * d.x = detP c d a * b.x - detP c d b * a.x ∧ detP a b d * c.y - detP a b c * d.y = detP c d a * b.y - detP c d b * a.y ∧ detP a b d * c.w - detP a b c * d.w = detP c d a * b.w - detP c d b * a.w := by
  refine ⟨?_, ?_, ?_⟩ <;> (unfold detP det; grind)
theorem pn_eq {a b : Pn} (ha : a.V) (hb : b.V) {i j : Int} (hi : i ≠ 0) (h1 : i * b.x = j * a.x) (h2 : i * b.y = j * a.y) (h3 : i * b.w = j * a.w) : a = b := by
  have pa := ha.pos
  have pb := hb.pos
  rw [← mkP_self ha, ← mkP_self hb]
  have hj : j ≠ 0 := by
    rintro rfl
    have : i * b.w = 0 := by rw [h3]; simp
    rcases Int.mul_eq_zero.mp this with h | h <;> omega
  refine mkP_eq (by omega) (by omega) ?_ ?_
  · refine Int.eq_of_mul_eq_mul_left hi (Int.eq_of_mul_eq_mul_left hj ?_)
    grind
  · refine Int.eq_of_mul_eq_mul_left hi (Int.eq_of_mul_eq_mul_left hj ?_)
    grind
theorem line_sym {a b c d : Pn} (ha : a.V) (hb : b.V) (hab : a ≠ b) (h1 : detP a b c = 0) (h2 : detP a b d = 0) : detP c d a = 0 ∧ detP c d b = 0 := by
  obtain ⟨e1, e2, e3⟩ := det_four a b c d
  rw [h1, h2] at e1 e2 e3
  have z : detP c d a = 0 := by
    by_cases z : detP c d a = 0
    · exact z
    · exact absurd (pn_eq (i := detP c d a) (j := detP c d b) ha hb z (by omega) (by omega) (by omega)) hab
  rw [z] at e3
  refine ⟨z, ?_⟩
  have pa := ha.pos
  have : detP c d b * a.w = 0 := by omega
  rcases Int.mul_eq_zero.mp this with h | h <;> omega
/-! ### what two segments have in common -/
inductive Res where
  | no | pt (p : Pn) | part (p q : Pn)
  deriving DecidableEq
def crossP (a b c d : Pn) : Pn :=
  mkP ((a.w * b.x - a.x * b.w) * (c.x * d.y - c.y * d.x) - (a.x * b.y - a.y * b.x) * (c.w * d.x - c.x * d.w))
    ((a.x * b.y - a.y * b.x) * (c.y * d.w - c.w * d.y) - (a.y * b.w - a.w * b.y) * (c.x * d.y - c.y * d.x))
    ((a.y * b.w - a.w * b.y) * (c.w * d.x - c.x * d.w) - (a.w * b.x - a.x * b.w) * (c.y * d.w - c.w * d.y))
/-- how far the directions turn -/
def crossW (a b c d : Pn) : Int := (a.y * b.w - a.w * b.y) * (c.w * d.x - c.x * d.w) - (a.w * b.x - a.x * b.w) * (c.y * d.w - c.w * d.y)
def loP (a b : Pn) : Pn := if cmpP a b < 0 then a else b
def hiP (a b : Pn) : Pn := if cmpP a b < 0 then b else a
def maxP (a b : Pn) : Pn := if 0 < cmpP a b then a else b
def minP (a b : Pn) : Pn := if cmpP a b < 0 then a else b
def lineR (a b c d : Pn) : Res :=
  if 0 < cmpP (maxP (loP a b) (loP c d)) (minP (hiP a b) (hiP c d)) then .no
  else if maxP (loP a b) (loP c d) = minP (hiP a b) (hiP c d) then .pt (maxP (loP a b) (loP c d)) else .part (maxP (loP a b) (loP c d)) (minP (hiP a b) (hiP c d))
def bothR (a b c d : Pn) : Res :=
  if sideP a b c = 0 ∧ sideP a b d = 0 then lineR a b c d
  else if 0 < sideP a b c * sideP a b d ∨ 0 < sideP c d a * sideP c d b then .no else .pt (crossP a b c d)
theorem crossW_eq (a b c d : Pn) : a.w * b.w * crossW a b c d = a.w * b.w * crossW a b c d := rfl
theorem crossW_d (a b c d : Pn) : c.w * detP a b d - d.w * detP a b c = crossW a b c d := by unfold detP det crossW; grind
theorem crossW_e (a b c d : Pn) : b.w * detP c d a - a.w * detP c d b = crossW a b c d := by unfold detP det crossW; grind
/-- by the places along the first segment -/
theorem crossP_eq (a b c d : Pn) : crossP a b c d = mkP (b.x * detP c d a - a.x * detP c d b) (b.y * detP c d a - a.y * detP c d b) (b.w * detP c d a - a.w * detP c d b) := by
  unfold crossP
  congr 1
  · unfold detP det; grind
  · unfold detP det; grind
  · unfold detP det; grind
theorem mkP_neg (x y : Int) {w : Int} (h : w ≠ 0) : mkP (-x) (-y) (-w) = mkP x y w := mkP_eq (by omega) h (by grind) (by grind)
section
variable {a b c d : Pn}
theorem crossP_l (h : crossW a b c d ≠ 0) : crossP b a c d = crossP a b c d := by
  rw [crossP_eq, crossP_eq a b c d]
  rw [← mkP_neg (b.x * detP c d a - a.x * detP c d b) _ (by rw [crossW_e]; exact h)]
  congr 1 <;> grind
theorem crossP_r (h : crossW a b c d ≠ 0) : crossP a b d c = crossP a b c d := by
  have s1 : detP d c a = -detP c d a := det_swap c d a
  have s2 : detP d c b = -detP c d b := det_swap c d b
  rw [crossP_eq, crossP_eq a b c d, s1, s2]
  rw [← mkP_neg (b.x * detP c d a - a.x * detP c d b) _ (by rw [crossW_e]; exact h)]
  congr 1 <;> grind
theorem crossP_s (h : crossW a b c d ≠ 0) : crossP c d a b = crossP a b c d := by
  obtain ⟨e1, e2, e3⟩ := det_four a b c d
  rw [crossP_eq, crossP_eq a b c d]
  rw [← mkP_neg (b.x * detP c d a - a.x * detP c d b) _ (by rw [crossW_e]; exact h)]
  congr 1 <;> grind
/-- sides that are crossed turn -/
theorem crossW_ne (ha : a.V) (hb : b.V) (hc : c.V) (hd : d.V) (h1 : ¬ (sideP a b c = 0 ∧ sideP a b d = 0)) (h2 : ¬ 0 < sideP a b c * sideP a b d) : crossW a b c d ≠ 0 := by
  intro z
  rw [← crossW_d] at z
  unfold sideP at h1 h2
  rw [sgn_zero, sgn_zero] at h1
  rw [sgn_mul_pos] at h2
  have pc := hc.pos
  have pd := hd.pos
  apply h2
  have e : c.w * detP a b d = d.w * detP a b c := by omega
  have h3 : detP a b c ≠ 0 := fun z1 => h1 ⟨z1, by
    rw [z1, Int.mul_zero] at e
    rcases Int.mul_eq_zero.mp e with h | h <;> omega⟩
  rcases Int.lt_or_gt_of_ne h3 with h | h
  · have q1 : d.w * detP a b c < 0 := Int.mul_neg_of_pos_of_neg pd h
    have q2 : detP a b d < 0 := by
      rcases Int.lt_trichotomy (detP a b d) 0 with g | g | g
      · exact g
      · rw [g, Int.mul_zero] at e; omega
      · have := Int.mul_pos pc g; omega
    exact Int.mul_pos_of_neg_of_neg h q2
  · have q1 : 0 < d.w * detP a b c := Int.mul_pos pd h
    have q2 : 0 < detP a b d := by
      rcases Int.lt_trichotomy (detP a b d) 0 with g | g | g
      · have := Int.mul_neg_of_pos_of_neg pc g; omega
      · rw [g, Int.mul_zero] at e; omega
      · exact g
    exact Int.mul_pos h q2
theorem lineR_ranks (L : List Pn) (hL : ∀ x ∈ L, x.V) (ha : a ∈ L) (hb : b ∈ L) : (loP a b ∈ L ∧ rank L (loP a b) = min (rank L a) (rank L b)) ∧ (hiP a b ∈ L ∧ rank L (hiP a b) = max (rank L a) (rank L b)) ∧
    (maxP a b ∈ L ∧ rank L (maxP a b) = max (rank L a) (rank L b)) ∧ (minP a b ∈ L ∧ rank L (minP a b) = min (rank L a) (rank L b)) := by
  obtain ⟨r1, r2, r3⟩ := rank_iff hL ha hb
  unfold loP hiP maxP minP
  refine ⟨?_, ?_, ?_, ?_⟩ <;> (split <;> constructor <;> first | assumption | omega)
theorem lineR_eq {a' b' c' d' : Pn} (L : List Pn) (hL : ∀ x ∈ L, x.V) (ha : a ∈ L) (hb : b ∈ L) (hc : c ∈ L) (hd : d ∈ L) (ha' : a' ∈ L) (hb' : b' ∈ L) (hc' : c' ∈ L) (hd' : d' ∈ L)
    (h1 : max (min (rank L a) (rank L b)) (min (rank L c) (rank L d)) = max (min (rank L a') (rank L b')) (min (rank L c') (rank L d'))) (h2 : min (max (rank L a) (rank L b)) (max (rank L c) (rank L d)) = min (max (rank L a') (rank L b')) (max (rank L c') (rank L d'))) : lineR a b c d = lineR a' b' c' d' := by
  obtain ⟨⟨l1, l2⟩, ⟨l3, l4⟩, _⟩ := lineR_ranks L hL ha hb
  obtain ⟨⟨m1, m2⟩, ⟨m3, m4⟩, _⟩ := lineR_ranks L hL hc hd
  obtain ⟨⟨l1', l2'⟩, ⟨l3', l4'⟩, _⟩ := lineR_ranks L hL ha' hb'
  obtain ⟨⟨m1', m2'⟩, ⟨m3', m4'⟩, _⟩ := lineR_ranks L hL hc' hd'
  obtain ⟨_, _, ⟨n1, n2⟩, _⟩ := lineR_ranks L hL l1 m1
  obtain ⟨_, _, _, ⟨n3, n4⟩⟩ := lineR_ranks L hL l3 m3
  obtain ⟨_, _, ⟨n1', n2'⟩, _⟩ := lineR_ranks L hL l1' m1'
  obtain ⟨_, _, _, ⟨n3', n4'⟩⟩ := lineR_ranks L hL l3' m3'
  have e1 : maxP (loP a b) (loP c d) = maxP (loP a' b') (loP c' d') := (rank_iff hL n1 n1').2.1.mpr (by rw [n2, l2, m2, n2', l2', m2']; exact h1)
  have e2 : minP (hiP a b) (hiP c d) = minP (hiP a' b') (hiP c' d') := (rank_iff hL n3 n3').2.1.mpr (by rw [n4, l4, m4, n4', l4', m4']; exact h2)
  unfold lineR
  rw [e1, e2]
theorem four_mem {P : Pn → Prop} (ha : P a) (hb : P b) (hc : P c) (hd : P d) : ∀ x ∈ [a, b, c, d], P x := by
  intro x hx
  simp only [List.mem_cons, List.not_mem_nil, or_false] at hx
  rcases hx with rfl | rfl | rfl | rfl <;> assumption
theorem bothR_l (ha : a.V) (hb : b.V) (hc : c.V) (hd : d.V) : bothR b a c d = bothR a b c d := by
  have s1 : sideP b a c = -sideP a b c := by unfold sideP; rw [det_swap, sgn_neg]
  have s2 : sideP b a d = -sideP a b d := by unfold sideP; rw [det_swap, sgn_neg]
  have hl : lineR b a c d = lineR a b c d := lineR_eq [a, b, c, d] (four_mem ha hb hc hd) (by simp) (by simp) (by simp) (by simp) (by simp) (by simp) (by simp) (by simp) (by omega) (by omega)
  unfold bothR
  rw [s1, s2, hl]
  have e1 : (-sideP a b c = 0 ∧ -sideP a b d = 0) = (sideP a b c = 0 ∧ sideP a b d = 0) := by rw [eq_iff_iff]; omega
  have e2 : -sideP a b c * -sideP a b d = sideP a b c * sideP a b d := by grind
  have e3 : sideP c d b * sideP c d a = sideP c d a * sideP c d b := Int.mul_comm _ _
  simp only [e1, e2, e3]
  split
  · rfl
  · split
    · rfl
    · rename_i h1 h2
      rw [crossP_l (crossW_ne ha hb hc hd h1 (fun z => h2 (.inl z)))]
theorem bothR_r (ha : a.V) (hb : b.V) (hc : c.V) (hd : d.V) : bothR a b d c = bothR a b c d := by
  have s1 : sideP d c a = -sideP c d a := by unfold sideP; rw [det_swap, sgn_neg]
  have s2 : sideP d c b = -sideP c d b := by unfold sideP; rw [det_swap, sgn_neg]
  have hl : lineR a b d c = lineR a b c d := lineR_eq [a, b, c, d] (four_mem ha hb hc hd) (by simp) (by simp) (by simp) (by simp) (by simp) (by simp) (by simp) (by simp) (by omega) (by omega)
  unfold bothR
  rw [s1, s2, hl]
  have e1 : (sideP a b d = 0 ∧ sideP a b c = 0) = (sideP a b c = 0 ∧ sideP a b d = 0) := by rw [eq_iff_iff]; omega
  have e2 : -sideP c d a * -sideP c d b = sideP c d a * sideP c d b := by grind
  have e3 : sideP a b d * sideP a b c = sideP a b c * sideP a b d := Int.mul_comm _ _
  simp only [e1, e2, e3]
  split
  · rfl
  · split
    · rfl
    · rename_i h1 h2
      rw [crossP_r (crossW_ne ha hb hc hd h1 (fun z => h2 (.inl z)))]
theorem bothR_s (ha : a.V) (hb : b.V) (hc : c.V) (hd : d.V) (hab : a ≠ b) (hcd : c ≠ d) : bothR c d a b = bothR a b c d := by
  have hl : lineR c d a b = lineR a b c d := lineR_eq [a, b, c, d] (four_mem ha hb hc hd) (by simp) (by simp) (by simp) (by simp) (by simp) (by simp) (by simp) (by simp) (by omega) (by omega)
  unfold bothR
  rw [hl]
  have e1 : (sideP c d a = 0 ∧ sideP c d b = 0) = (sideP a b c = 0 ∧ sideP a b d = 0) := by
    unfold sideP
    rw [eq_iff_iff, sgn_zero, sgn_zero, sgn_zero, sgn_zero]
    exact ⟨fun h => line_sym hc hd hcd h.1 h.2, fun h => line_sym ha hb hab h.1 h.2⟩
  have e2 : (0 < sideP c d a * sideP c d b ∨ 0 < sideP a b c * sideP a b d) = (0 < sideP a b c * sideP a b d ∨ 0 < sideP c d a * sideP c d b) := by rw [eq_iff_iff]; exact or_comm
  simp only [e1, e2]
  split
  · rfl
  · split
    · rfl
    · rename_i h1 h2
      rw [crossP_s (crossW_ne ha hb hc hd h1 (fun z => h2 (.inl z)))]
end
end G
end

section
set_option linter.all false
set_option autoImplicit false
set_option maxRecDepth 20000
/-! MC2: the same by places along both segments. -/
namespace G
def goodP (a b c d x : Pn) : Bool := liesP a b x && liesP c d x
def endsP (a b c d : Pn) : List Pn := [a, b, c, d].filter (goodP a b c d)
def leastP (e : Pn) (xs : List Pn) : Pn := xs.foldl (fun l x => if cmpP x l < 0 then x else l) e
def mostP (e : Pn) (xs : List Pn) : Pn := xs.foldl (fun l x => if 0 < cmpP x l then x else l) e
def shlineR (a b c d : Pn) : Res := match endsP a b c d with
  | [] => .no
  | e :: r => if leastP e (e :: r) = mostP e (e :: r) then .pt (leastP e (e :: r)) else .part (leastP e (e :: r)) (mostP e (e :: r))
/-- scaled numbers -/
def sw (a b c d : Pn) : Int := a.w * b.w * c.w * d.w
def sU (a b c d : Pn) : Int × Int := (b.x * (a.w * c.w * d.w) - a.x * (b.w * c.w * d.w), b.y * (a.w * c.w * d.w) - a.y * (b.w * c.w * d.w))
def sV (a b c d : Pn) : Int × Int := (d.x * (a.w * b.w * c.w) - c.x * (a.w * b.w * d.w), d.y * (a.w * b.w * c.w) - c.y * (a.w * b.w * d.w))
def sE (a b c d : Pn) : Int × Int := (c.x * (a.w * b.w * d.w) - a.x * (b.w * c.w * d.w), c.y * (a.w * b.w * d.w) - a.y * (b.w * c.w * d.w))
def sWhole (a b c d : Pn) : Int := (sU a b c d).1 * (sV a b c d).2 - (sU a b c d).2 * (sV a b c d).1
def sP (a b c d : Pn) : Int := (sE a b c d).1 * (sV a b c d).2 - (sE a b c d).2 * (sV a b c d).1
def sQ (a b c d : Pn) : Int := (sE a b c d).1 * (sU a b c d).2 - (sE a b c d).2 * (sU a b c d).1
theorem sWhole_eq (a b c d : Pn) : sWhole a b c d = sw a b c d * crossW a b c d := by unfold sWhole sU sV sw crossW; grind
theorem sP_eq (a b c d : Pn) : sP a b c d = sw a b c d * (b.w * detP c d a) := by unfold sP sE sV sw detP det; grind
theorem sQ_eq (a b c d : Pn) : sQ a b c d = -(sw a b c d * (d.w * detP a b c)) := by unfold sQ sE sU sw detP det; grind
/-- where they cross, by the place along the first one -/
def sCross (a b c d : Pn) (W P : Int) : Pn := mkP (a.x * (b.w * c.w * d.w) * W + (sU a b c d).1 * P) (a.y * (b.w * c.w * d.w) * W + (sU a b c d).2 * P) (sw a b c d * W)
def sharedR (a b c d : Pn) : Res :=
  if sWhole a b c d ≠ 0 then
    (if sWhole a b c d < 0 then
      (if (0 ≤ -sP a b c d ∧ -sP a b c d ≤ -sWhole a b c d) ∧ (0 ≤ -sQ a b c d ∧ -sQ a b c d ≤ -sWhole a b c d) then .pt (sCross a b c d (-sWhole a b c d) (-sP a b c d)) else .no)
    else if (0 ≤ sP a b c d ∧ sP a b c d ≤ sWhole a b c d) ∧ (0 ≤ sQ a b c d ∧ sQ a b c d ≤ sWhole a b c d) then .pt (sCross a b c d (sWhole a b c d) (sP a b c d)) else .no)
  else if sQ a b c d ≠ 0 then .no else shlineR a b c d
section
variable {a b c d : Pn}
theorem sw_pos (ha : a.V) (hb : b.V) (hc : c.V) (hd : d.V) : 0 < sw a b c d := Int.mul_pos (Int.mul_pos (Int.mul_pos ha.pos hb.pos) hc.pos) hd.pos
theorem pos_mul_le {k x y : Int} (hk : 0 < k) : k * x ≤ k * y ↔ x ≤ y := ⟨fun h => Int.le_of_mul_le_mul_left h hk, fun h => Int.mul_le_mul_of_nonneg_left h (by omega)⟩
theorem pos_mul_nn {k x : Int} (hk : 0 < k) : 0 ≤ k * x ↔ 0 ≤ x := by have := pos_mul_le (x := 0) (y := x) hk; rwa [Int.mul_zero] at this
theorem pos_mul_lt {k x : Int} (hk : 0 < k) : k * x < 0 ↔ x < 0 := by have := pos_mul_nn (x := x) hk; omega
theorem pos_mul_ne {k x : Int} (hk : 0 < k) : k * x ≠ 0 ↔ x ≠ 0 := by
  constructor
  · rintro h rfl; simp at h
  · intro h z
    rcases Int.mul_eq_zero.mp z with h' | h' <;> omega
theorem sCross_eq {W P w e f : Int} {k : Int} (hk : k ≠ 0) (hs : sw a b c d ≠ 0) (hw : b.w * e - a.w * f ≠ 0) (h1 : W = k * (b.w * e - a.w * f)) (h2 : P = k * (b.w * e)) :
    sCross a b c d W P = mkP (b.x * e - a.x * f) (b.y * e - a.y * f) (b.w * e - a.w * f) := by
  unfold sCross
  subst h1 h2
  refine mkP_eq ?_ hw ?_ ?_
  · intro z
    rcases Int.mul_eq_zero.mp z with h | h
    · exact hs h
    · rcases Int.mul_eq_zero.mp h with h | h
      · exact hk h
      · exact hw h
  · unfold sU sw; grind
  · unfold sU sw; grind
/-- the turns decide -/
theorem shared_cross (ha : a.V) (hb : b.V) (hc : c.V) (hd : d.V) (h0 : crossW a b c d ≠ 0) : sharedR a b c d = if 0 < sideP a b c * sideP a b d ∨ 0 < sideP c d a * sideP c d b then .no else .pt (crossP a b c d) := by
  have hs := sw_pos ha hb hc hd
  have pa := ha.pos
  have pb := hb.pos
  have pc := hc.pos
  have pd := hd.pos
  unfold sharedR
  rw [sWhole_eq, sP_eq, sQ_eq]
  rw [if_pos ((pos_mul_ne hs).mpr h0)]
  have e1 := crossW_d a b c d
  have e2 := crossW_e a b c d
  unfold sideP
  simp only [sgn_mul_pos]
  rw [crossP_eq]
  generalize hC : detP a b c = C at *
  generalize hD : detP a b d = D at *
  generalize hE : detP c d a = E at *
  generalize hF : detP c d b = F at *
  have mC : ∀ x : Int, (0 ≤ d.w * x ↔ 0 ≤ x) := fun x => pos_mul_nn pd
  have mD : ∀ x : Int, (0 ≤ c.w * x ↔ 0 ≤ x) := fun x => pos_mul_nn pc
  have mE : ∀ x : Int, (0 ≤ b.w * x ↔ 0 ≤ x) := fun x => pos_mul_nn pb
  have mF : ∀ x : Int, (0 ≤ a.w * x ↔ 0 ≤ x) := fun x => pos_mul_nn pa
  have kC := mC (-C); have kC' := mC C
  have kD := mD (-D); have kD' := mD D
  have kE := mE (-E); have kE' := mE E
  have kF := mF (-F); have kF' := mF F
  rw [Int.mul_neg] at kC kD kE kF
  have hprod : ∀ {x y : Int}, (0 < x * y ↔ (0 < x ∧ 0 < y) ∨ (x < 0 ∧ y < 0)) := fun {x y} => by
    constructor
    · intro h
      rcases Int.lt_trichotomy x 0 with g | g | g
      · refine .inr ⟨g, ?_⟩
        rcases Int.lt_trichotomy y 0 with g' | g' | g'
        · exact g'
        · subst g'; simp at h
        · have := Int.mul_neg_of_neg_of_pos g g'; omega
      · subst g; simp at h
      · refine .inl ⟨g, ?_⟩
        rcases Int.lt_trichotomy y 0 with g' | g' | g'
        · have := Int.mul_neg_of_pos_of_neg g g'; omega
        · subst g'; simp at h
        · exact g'
    · rintro (⟨h1, h2⟩ | ⟨h1, h2⟩)
      · exact Int.mul_pos h1 h2
      · exact Int.mul_pos_of_neg_of_neg h1 h2
  simp only [hprod]
  have hw : b.w * E - a.w * F ≠ 0 := by rw [e2]; exact h0
  have u1 : sCross a b c d (-(sw a b c d * crossW a b c d)) (-(sw a b c d * (b.w * E))) = mkP (b.x * E - a.x * F) (b.y * E - a.y * F) (b.w * E - a.w * F) :=
    sCross_eq (w := 0) (k := -sw a b c d) (by omega) (by omega) hw (by rw [e2]; grind) (by grind)
  have u2 : sCross a b c d (sw a b c d * crossW a b c d) (sw a b c d * (b.w * E)) = mkP (b.x * E - a.x * F) (b.y * E - a.y * F) (b.w * E - a.w * F) :=
    sCross_eq (w := 0) (k := sw a b c d) (by omega) (by omega) hw (by rw [e2]) rfl
  rw [u1, u2]
  generalize mkP (b.x * E - a.x * F) (b.y * E - a.y * F) (b.w * E - a.w * F) = z
  simp only [pos_mul_lt hs, ← Int.mul_neg, pos_mul_nn hs, pos_mul_le hs, Int.neg_neg]
  simp only [Int.mul_neg, Int.neg_neg]
  clear u1 u2 hC hD hE hF mC mD mE mF hprod
  generalize crossW a b c d = W at *
  generalize d.w * C = dC at *
  generalize c.w * D = cD at *
  generalize b.w * E = bE at *
  generalize a.w * F = aF at *
  by_cases hW : W < 0
  · rw [if_pos hW]
    split
    · rw [if_neg (by omega)]
    · rw [if_pos (by omega)]
  · rw [if_neg hW]
    split
    · rw [if_neg (by omega)]
    · rw [if_pos (by omega)]
theorem leastP_ok (L : List Pn) (hL : ∀ x ∈ L, x.V) : ∀ (xs : List Pn) (e : Pn), e ∈ L → (∀ x ∈ xs, x ∈ L) → leastP e xs ∈ L ∧ (leastP e xs = e ∨ leastP e xs ∈ xs) ∧ rank L (leastP e xs) ≤ rank L e ∧ ∀ x ∈ xs, rank L (leastP e xs) ≤ rank L x
  | [], e, he, _ => ⟨he, .inl rfl, Int.le_refl _, nofun⟩
  | x :: xs, e, he, h => by
    have hx := h x List.mem_cons_self
    obtain ⟨r1, r2, r3⟩ := rank_iff hL hx he
    have ih := leastP_ok L hL xs (if cmpP x e < 0 then x else e) (by split <;> assumption) fun y hy => h y (List.mem_cons_of_mem _ hy)
    show leastP (if cmpP x e < 0 then x else e) xs ∈ L ∧ (leastP (if cmpP x e < 0 then x else e) xs = e ∨ leastP (if cmpP x e < 0 then x else e) xs ∈ x :: xs) ∧ rank L (leastP (if cmpP x e < 0 then x else e) xs) ≤ rank L e ∧ ∀ y ∈ x :: xs, rank L (leastP (if cmpP x e < 0 then x else e) xs) ≤ rank L y
    by_cases hc : cmpP x e < 0
    · rw [if_pos hc] at ih ⊢
      obtain ⟨i1, i2, i3, i4⟩ := ih
      refine ⟨i1, .inr (i2.elim (fun z => by rw [z]; exact List.mem_cons_self) fun z => List.mem_cons_of_mem _ z), by omega, fun y hy => ?_⟩
      rcases List.mem_cons.mp hy with rfl | hy
      · exact i3
      · exact i4 y hy
    · rw [if_neg hc] at ih ⊢
      obtain ⟨i1, i2, i3, i4⟩ := ih
      refine ⟨i1, i2.elim .inl fun z => .inr (List.mem_cons_of_mem _ z), i3, fun y hy => ?_⟩
      rcases List.mem_cons.mp hy with rfl | hy
      · omega
      · exact i4 y hy
theorem mostP_ok (L : List Pn) (hL : ∀ x ∈ L, x.V) : ∀ (xs : List Pn) (e : Pn), e ∈ L → (∀ x ∈ xs, x ∈ L) → mostP e xs ∈ L ∧ (mostP e xs = e ∨ mostP e xs ∈ xs) ∧ rank L e ≤ rank L (mostP e xs) ∧ ∀ x ∈ xs, rank L x ≤ rank L (mostP e xs)
  | [], e, he, _ => ⟨he, .inl rfl, Int.le_refl _, nofun⟩
  | x :: xs, e, he, h => by
    have hx := h x List.mem_cons_self
    obtain ⟨r1, r2, r3⟩ := rank_iff hL hx he
    have ih := mostP_ok L hL xs (if 0 < cmpP x e then x else e) (by split <;> assumption) fun y hy => h y (List.mem_cons_of_mem _ hy)
    show mostP (if 0 < cmpP x e then x else e) xs ∈ L ∧ (mostP (if 0 < cmpP x e then x else e) xs = e ∨ mostP (if 0 < cmpP x e then x else e) xs ∈ x :: xs) ∧ rank L e ≤ rank L (mostP (if 0 < cmpP x e then x else e) xs) ∧ ∀ y ∈ x :: xs, rank L y ≤ rank L (mostP (if 0 < cmpP x e then x else e) xs)
    by_cases hc : 0 < cmpP x e
    · rw [if_pos hc] at ih ⊢
      obtain ⟨i1, i2, i3, i4⟩ := ih
      refine ⟨i1, .inr (i2.elim (fun z => by rw [z]; exact List.mem_cons_self) fun z => List.mem_cons_of_mem _ z), by omega, fun y hy => ?_⟩
      rcases List.mem_cons.mp hy with rfl | hy
      · exact i3
      · exact i4 y hy
    · rw [if_neg hc] at ih ⊢
      obtain ⟨i1, i2, i3, i4⟩ := ih
      refine ⟨i1, i2.elim .inl fun z => .inr (List.mem_cons_of_mem _ z), i3, fun y hy => ?_⟩
      rcases List.mem_cons.mp hy with rfl | hy
      · omega
      · exact i4 y hy
theorem lies_rank {L : List Pn} (hL : ∀ x ∈ L, x.V) (ha : a ∈ L) (hb : b ∈ L) (hx : c ∈ L) (h0 : detP a b c = 0) : liesP a b c = true ↔ min (rank L a) (rank L b) ≤ rank L c ∧ rank L c ≤ max (rank L a) (rank L b) := by
  obtain ⟨p1, p2, p3⟩ := rank_iff hL ha hb
  obtain ⟨q1, q2, q3⟩ := rank_iff hL ha hx
  obtain ⟨r1, r2, r3⟩ := rank_iff hL hx hb
  have n1 := cmpP_anti a b
  have n2 := cmpP_anti a c
  have n3 := cmpP_anti c b
  unfold liesP
  rw [if_neg (by unfold sideP; rw [h0]; simp [show sgn 0 = 0 from rfl])]
  split
  · rw [Bool.and_eq_true, decide_eq_true_eq, decide_eq_true_eq]; omega
  · rw [Bool.and_eq_true, decide_eq_true_eq, decide_eq_true_eq]; omega
theorem shline_eq (ha : a.V) (hb : b.V) (hc : c.V) (hd : d.V) (h1 : detP a b c = 0) (h2 : detP a b d = 0) (h3 : detP c d a = 0) (h4 : detP c d b = 0) : shlineR a b c d = lineR a b c d := by
  have hL := four_mem (P := fun p => p.V) ha hb hc hd
  generalize hLd : [a, b, c, d] = L at hL
  have ma : a ∈ L := by rw [← hLd]; simp
  have mb : b ∈ L := by rw [← hLd]; simp
  have mc : c ∈ L := by rw [← hLd]; simp
  have md : d ∈ L := by rw [← hLd]; simp
  obtain ⟨⟨l1, l2⟩, ⟨l3, l4⟩, _⟩ := lineR_ranks L hL ma mb
  obtain ⟨⟨m1, m2⟩, ⟨m3, m4⟩, _⟩ := lineR_ranks L hL mc md
  obtain ⟨_, _, ⟨n1, n2⟩, _⟩ := lineR_ranks L hL l1 m1
  obtain ⟨_, _, _, ⟨n3, n4⟩⟩ := lineR_ranks L hL l3 m3
  have good : ∀ x ∈ L, goodP a b c d x = true ↔ rank L (maxP (loP a b) (loP c d)) ≤ rank L x ∧ rank L x ≤ rank L (minP (hiP a b) (hiP c d)) := fun x hx => by
    have z1 : detP a b x = 0 := by
      rw [← hLd] at hx
      simp only [List.mem_cons, List.not_mem_nil, or_false] at hx
      rcases hx with rfl | rfl | rfl | rfl
      · exact det_aba _ _
      · exact det_abb _ _
      · exact h1
      · exact h2
    have z2 : detP c d x = 0 := by
      rw [← hLd] at hx
      simp only [List.mem_cons, List.not_mem_nil, or_false] at hx
      rcases hx with rfl | rfl | rfl | rfl
      · exact h3
      · exact h4
      · exact det_aba _ _
      · exact det_abb _ _
    unfold goodP
    rw [Bool.and_eq_true, lies_rank hL ma mb hx z1, lies_rank hL mc md hx z2, n2, n4, l2, m2, l4, m4]
    omega
  generalize hlow : maxP (loP a b) (loP c d) = low at *
  generalize hhigh : minP (hiP a b) (hiP c d) = high at *
  unfold shlineR lineR endsP
  rw [hLd, hlow, hhigh]
  obtain ⟨r1, r2, r3⟩ := rank_iff hL n1 n3
  by_cases hle : rank L low ≤ rank L high
  · rw [if_neg (by omega)]
    have glow : low ∈ L.filter (goodP a b c d) := List.mem_filter.mpr ⟨n1, (good low n1).mpr ⟨Int.le_refl _, hle⟩⟩
    have ghigh : high ∈ L.filter (goodP a b c d) := List.mem_filter.mpr ⟨n3, (good high n3).mpr ⟨hle, Int.le_refl _⟩⟩
    have gall : ∀ x ∈ L.filter (goodP a b c d), x ∈ L ∧ rank L low ≤ rank L x ∧ rank L x ≤ rank L high := fun x hx => by
      obtain ⟨i, j⟩ := List.mem_filter.mp hx
      exact ⟨i, (good x i).mp j⟩
    cases hf : L.filter (goodP a b c d) with
    | nil => rw [hf] at glow; cases glow
    | cons e r =>
      rw [hf] at glow ghigh gall
      dsimp only
      have he := (gall e List.mem_cons_self).1
      obtain ⟨i1, i2, i3, i4⟩ := leastP_ok L hL (e :: r) e he fun x hx => (gall x hx).1
      obtain ⟨j1, j2, j3, j4⟩ := mostP_ok L hL (e :: r) e he fun x hx => (gall x hx).1
      have k1 : leastP e (e :: r) ∈ e :: r := i2.elim (fun z => by rw [z]; exact List.mem_cons_self) id
      have k2 : mostP e (e :: r) ∈ e :: r := j2.elim (fun z => by rw [z]; exact List.mem_cons_self) id
      have e1 : leastP e (e :: r) = low := (rank_iff hL i1 n1).2.1.mpr (Int.le_antisymm (i4 low glow) (gall _ k1).2.1)
      have e2 : mostP e (e :: r) = high := (rank_iff hL j1 n3).2.1.mpr (Int.le_antisymm (gall _ k2).2.2 (j4 high ghigh))
      rw [e1, e2]
  · rw [if_pos (by omega)]
    have : L.filter (goodP a b c d) = [] := by
      rw [List.filter_eq_nil_iff]
      intro x hx z
      have := (good x hx).mp z
      omega
    rw [this]
theorem shared_eq (ha : a.V) (hb : b.V) (hc : c.V) (hd : d.V) (hab : a ≠ b) : sharedR a b c d = bothR a b c d := by
  have hs := sw_pos ha hb hc hd
  have pd := hd.pos
  have pc := hc.pos
  by_cases h0 : crossW a b c d = 0
  · have e1 := crossW_d a b c d
    have e2 := crossW_e a b c d
    unfold sharedR
    rw [sWhole_eq, h0, sQ_eq, if_neg (by simp)]
    by_cases h1 : detP a b c = 0
    · have h2 : detP a b d = 0 := by
        rw [h0, h1] at e1
        have : c.w * detP a b d = 0 := by omega
        rcases Int.mul_eq_zero.mp this with h | h <;> omega
      rw [h1, if_neg (by simp)]
      obtain ⟨h3, h4⟩ := line_sym ha hb hab h1 h2
      rw [shline_eq ha hb hc hd h1 h2 h3 h4]
      unfold bothR sideP
      rw [h1, h2, if_pos ⟨rfl, rfl⟩]
    · rw [if_pos (by
        intro z
        have z' : sw a b c d * (d.w * detP a b c) = 0 := by omega
        rcases Int.mul_eq_zero.mp z' with h | h
        · omega
        · rcases Int.mul_eq_zero.mp h with h | h <;> omega)]
      unfold bothR
      rw [if_neg (by unfold sideP; rw [sgn_zero]; exact fun z => h1 z.1)]
      by_cases hp : 0 < sideP a b c * sideP a b d
      · rw [if_pos (.inl hp)]
      · exact absurd h0 (crossW_ne ha hb hc hd (by unfold sideP; rw [sgn_zero]; exact fun z => h1 z.1) hp)
  · rw [shared_cross ha hb hc hd h0]
    have hn : ¬ (sideP a b c = 0 ∧ sideP a b d = 0) := by
      rintro ⟨h1, h2⟩
      unfold sideP at h1 h2
      rw [sgn_zero] at h1 h2
      apply h0
      rw [← crossW_d, h1, h2]; simp
    unfold bothR
    rw [if_neg hn]
end
end G
end

section
set_option linter.all false
set_option autoImplicit false
set_option maxRecDepth 20000
/-! LP3: segments, as the program looks at them. -/
namespace G
open PySem (Str Operator CmpOp PyData)
instance (a b : Pn) [Pn.Ok a] [Pn.Ok b] : Pn.Ok (loP a b) := by unfold loP; split <;> assumption
instance (a b : Pn) [Pn.Ok a] [Pn.Ok b] : Pn.Ok (hiP a b) := by unfold hiP; split <;> assumption
instance (a b : Pn) [Pn.Ok a] [Pn.Ok b] : Pn.Ok (maxP a b) := by unfold maxP; split <;> assumption
instance (a b : Pn) [Pn.Ok a] [Pn.Ok b] : Pn.Ok (minP a b) := by unfold minP; split <;> assumption
abbrev segD (a b : Pn) : D := .tup [a.d, b.d]
def Res.D : Res → D
  | .no => .non
  | .pt p => .tup [.str (F.s "point"), p.d]
  | .part p q => .tup [.str (F.s "part"), .tup [p.d, q.d]]
theorem Res.nr (r : Res) : r.D.nr = true := by cases r <;> simp [Res.D, D.nr, D.nrs, Pn.nr]
/-- sides are small -/
theorem sideP_cases (a b c : Pn) : sideP a b c = -1 ∨ sideP a b c = 0 ∨ sideP a b c = 1 := by
  unfold sideP sgn b2i
  by_cases h1 : 0 < detP a b c <;> by_cases h2 : detP a b c < 0 <;> simp [h1, h2]
instance (a b c : Pn) : Sm 1 (sideP a b c) := ⟨by rcases sideP_cases a b c with h | h | h <;> rw [h] <;> decide⟩
section
variable {T : Tab} (k : Nat) (c : Cells)
theorem line_e [hf : HasFn T "line" F.line] (a b : Pn) [Pn.Ok a] [Pn.Ok b] : callD T (k + 1) "line" [a.d, b.d] c = .ok (.tup [.int (a.y * b.w - a.w * b.y), .int (a.w * b.x - a.x * b.w), .int (a.x * b.y - a.y * b.x)]) c := by
  refine eq_of fun Q E hQ => call_body (fn := F.line) hf.h rfl ?_
  unfold F.line
  show wS (dSs _ _ [some a.d, some b.d] c) _
  simp (decide := true) only [↓ss_cons, ↓ss_nil, ↓s_set, ↓s_ret, ↓s_retN, ↓s_expr, ↓s_ife, ↓s_raise, ↓s_cnt, ↓s_brk, ↓s_pass, ↓s_setX, ↓s_for, ↓s_foS, ↓e_k, ↓e_tup, ↓e_lst, ↓e_call, ↓e_blt, ↓e_cmp, ↓e_bin, ↓e_neg, ↓e_and, ↓e_or, ↓e_not, ↓e_ite, ↓e_chain, ↓e_ix, ↓e_isi, ↓e_meth, ↓e_sl, ↓e_lam, ↓e_lc, ↓es_cons, ↓es_nil, ↓o_no, ↓b_add, ↓b_sub, ↓b_subB, ↓b_addB, ↓b_mul, ↓b_div, ↓b_mod, ↓b_pow, ↓b_addT, ↓b_mulT, ↓c_lt, ↓c_le, ↓c_gt, ↓c_ge, ↓c_isB, ↓c_isNotB, ↓c_isN, ↓c_isNotN, ↓t_abs, ↓t_int, ↓t_intB, ↓t_len, ↓t_min, ↓t_max, ↓t_tupT, ↓t_lstT, ↓i_v, ↓i_tup, ↓i_lst, ↓i_call, ↓i_ix, ↓i_sl, ↓lc_nil, ↓lc_cons, ↓w_lcB, ↓fo_nil, ↓fo_cons, ↓ts_nil, ↓ts_cons, ↓t_all, ↓t_any, ↓t_tup, ↓wI_int, ↓wR_ok, ↓v_0, ↓v_1, ↓v_2, ↓v_3, ↓v_4, ↓v_5, ↓v_6, ↓v_7, ↓v_8, ↓v_9, ↓v_10, ↓v_11, ↓v_12, ↓v_13, ↓v_14, ↓v_15, ↓v_16, ↓v_17, ↓v_18, ↓v_19, ↓v_20, ↓v_21, ↓v_22, ↓v_23, ↓v_24, ↓v_25, ↓v_26, ↓v_27, ↓v_28, ↓v_29, ↓v_30, ↓v_31, ↓as_0, ↓as_1, ↓as_2, ↓as_3, ↓as_4, ↓as_5, ↓as_6, ↓as_7, ↓as_8, ↓as_9, ↓as_10, ↓as_11, ↓as_12, ↓as_13, ↓as_14, ↓as_15, ↓as_16, ↓as_17, ↓as_18, ↓as_19, ↓as_20, ↓as_21, ↓as_22, ↓as_23, ↓as_24, ↓as_25, ↓as_26, ↓as_27, ↓as_28, ↓as_29, ↓as_30, ↓as_31, ↓as_t, ↓as_n, ↓as_c, ↓x1_0, ↓x2_0, ↓x2_1, ↓x3_0, ↓x3_1, ↓x3_2, ↓x4_0, ↓x4_1, ↓x4_2, ↓x4_3, ↓x5_0, ↓x5_1, ↓x5_2, ↓x5_3, ↓x5_4, ↓gc_id, ↓gc_bl, ↓gc_bl2, ↓gc_bl3, ↓gc_i, ↓gc_i2, ↓gc_n, ↓gc_n2, ↓gc_ex, ↓gc_ex0, ↓gc_ex2, ↓ce_ii, ↓ce_bb, ↓ce_2, ↓ce_3, ↓cn_ii, ↓cn_bb, ↓cn_2, ↓cn_3, ↓pk_bl, ↓pk_int, ↓pk_tn, ↓pk_tc, ↓pk_non, ↓nb_bl, ↓nb_int, ↓yt_non, ↓yt_bl, ↓yt_int, ↓yt_str, ↓yt_tup, ↓wp_tup, List.length_cons, List.length_nil, lim, Nat.reduceAdd, Nat.reduceLeDiff, true_and, and_true, is_ii, is_ib, is_bi, is_bb, is_tt, is_lt, is_it, is_nt, is_st, is_ni, is_si, is_ti, is_li, Bool.not_true, Bool.not_false, Bool.false_eq_true, if_true, if_false, abs_eq, Int.cast_ofNat_Int, BEq.rfl, beq_iff_eq, Int.reduceBEq, Int.reduceLT, Int.reduceLE, Int.reduceNeg, Int.reduceEq, List.all_cons, List.all_nil, id, Bool.and_true, Bool.true_and, Bool.and_self, same_nil', oc_some, oc_none, bls, wBs_some, wipe, Option.map_some, List.set_cons_zero, List.set_cons_succ, decide_true, decide_false, ↓reduceIte, decide_eq_true_eq, Bool.not_eq_true', ↓p_0, ↓p_1, ↓p_2, ↓p_len, ↓p_eq, ↓p_ne, ↓p_ty, ↓p_items, ↓e_rv, ↓rv_2, mulOk_sm]
  exact hQ
theorem made_of_e [hf : HasFn T "made_of" F.made_of] [HasFn T "made" (F.made "common")] [HasFn T "common" F.common] (a b x y : Pn) [Pn.Ok a] [Pn.Ok b] [Pn.Ok x] [Pn.Ok y] (h : crossW a b x y ≠ 0) :
    callD T (k + 3) "made_of" [.tup [.int (a.y * b.w - a.w * b.y), .int (a.w * b.x - a.x * b.w), .int (a.x * b.y - a.y * b.x)], .tup [.int (x.y * y.w - x.w * y.y), .int (x.w * y.x - x.x * y.w), .int (x.x * y.y - x.y * y.x)]] c = .ok (crossP a b x y).d c := by
  refine eq_of fun Q E hQ => call_body (fn := F.made_of) hf.h rfl ?_
  unfold F.made_of
  show wS (dSs _ _ [some _, some _, none, none] c) _
  unfold crossP at hQ
  unfold crossW at h
  have e := fun X Y c => made_e (T := T) k c "made" "common" X Y _ (by decide) h
  simp (decide := true) only [↓ss_cons, ↓ss_nil, ↓s_set, ↓s_ret, ↓s_retN, ↓s_expr, ↓s_ife, ↓s_raise, ↓s_cnt, ↓s_brk, ↓s_pass, ↓s_setX, ↓s_for, ↓s_foS, ↓e_k, ↓e_tup, ↓e_lst, ↓e_call, ↓e_blt, ↓e_cmp, ↓e_bin, ↓e_neg, ↓e_and, ↓e_or, ↓e_not, ↓e_ite, ↓e_chain, ↓e_ix, ↓e_isi, ↓e_meth, ↓e_sl, ↓e_lam, ↓e_lc, ↓es_cons, ↓es_nil, ↓o_no, ↓b_add, ↓b_sub, ↓b_subB, ↓b_addB, ↓b_mul, ↓b_div, ↓b_mod, ↓b_pow, ↓b_addT, ↓b_mulT, ↓c_lt, ↓c_le, ↓c_gt, ↓c_ge, ↓c_isB, ↓c_isNotB, ↓c_isN, ↓c_isNotN, ↓t_abs, ↓t_int, ↓t_intB, ↓t_len, ↓t_min, ↓t_max, ↓t_tupT, ↓t_lstT, ↓i_v, ↓i_tup, ↓i_lst, ↓i_call, ↓i_ix, ↓i_sl, ↓lc_nil, ↓lc_cons, ↓w_lcB, ↓fo_nil, ↓fo_cons, ↓ts_nil, ↓ts_cons, ↓t_all, ↓t_any, ↓t_tup, ↓wI_int, ↓wR_ok, ↓v_0, ↓v_1, ↓v_2, ↓v_3, ↓v_4, ↓v_5, ↓v_6, ↓v_7, ↓v_8, ↓v_9, ↓v_10, ↓v_11, ↓v_12, ↓v_13, ↓v_14, ↓v_15, ↓v_16, ↓v_17, ↓v_18, ↓v_19, ↓v_20, ↓v_21, ↓v_22, ↓v_23, ↓v_24, ↓v_25, ↓v_26, ↓v_27, ↓v_28, ↓v_29, ↓v_30, ↓v_31, ↓as_0, ↓as_1, ↓as_2, ↓as_3, ↓as_4, ↓as_5, ↓as_6, ↓as_7, ↓as_8, ↓as_9, ↓as_10, ↓as_11, ↓as_12, ↓as_13, ↓as_14, ↓as_15, ↓as_16, ↓as_17, ↓as_18, ↓as_19, ↓as_20, ↓as_21, ↓as_22, ↓as_23, ↓as_24, ↓as_25, ↓as_26, ↓as_27, ↓as_28, ↓as_29, ↓as_30, ↓as_31, ↓as_t, ↓as_n, ↓as_c, ↓x1_0, ↓x2_0, ↓x2_1, ↓x3_0, ↓x3_1, ↓x3_2, ↓x4_0, ↓x4_1, ↓x4_2, ↓x4_3, ↓x5_0, ↓x5_1, ↓x5_2, ↓x5_3, ↓x5_4, ↓gc_id, ↓gc_bl, ↓gc_bl2, ↓gc_bl3, ↓gc_i, ↓gc_i2, ↓gc_n, ↓gc_n2, ↓gc_ex, ↓gc_ex0, ↓gc_ex2, ↓ce_ii, ↓ce_bb, ↓ce_2, ↓ce_3, ↓cn_ii, ↓cn_bb, ↓cn_2, ↓cn_3, ↓pk_bl, ↓pk_int, ↓pk_tn, ↓pk_tc, ↓pk_non, ↓nb_bl, ↓nb_int, ↓yt_non, ↓yt_bl, ↓yt_int, ↓yt_str, ↓yt_tup, ↓wp_tup, List.length_cons, List.length_nil, lim, Nat.reduceAdd, Nat.reduceLeDiff, true_and, and_true, is_ii, is_ib, is_bi, is_bb, is_tt, is_lt, is_it, is_nt, is_st, is_ni, is_si, is_ti, is_li, Bool.not_true, Bool.not_false, Bool.false_eq_true, if_true, if_false, abs_eq, Int.cast_ofNat_Int, BEq.rfl, beq_iff_eq, Int.reduceBEq, Int.reduceLT, Int.reduceLE, Int.reduceNeg, Int.reduceEq, List.all_cons, List.all_nil, id, Bool.and_true, Bool.true_and, Bool.and_self, same_nil', oc_some, oc_none, bls, wBs_some, wipe, Option.map_some, List.set_cons_zero, List.set_cons_succ, decide_true, decide_false, ↓reduceIte, decide_eq_true_eq, Bool.not_eq_true', ↓p_0, ↓p_1, ↓p_2, ↓p_len, ↓p_eq, ↓p_ne, ↓p_ty, ↓p_items, ↓e_rv, ↓rv_2, mulOk_sm, ↓w_of _ _ (e _ _ _)]
  exact hQ
theorem both_have_e [hf : HasFn T "both_have" F.both_have] [HasFn T "made_of" F.made_of] [HasFn T "line" F.line] [HasFn T "side" F.side] [HasFn T "compared" F.compared] [HasFn T "made" (F.made "common")] [HasFn T "common" F.common]
    (a b x y : Pn) [ha : Pn.Ok a] [hb : Pn.Ok b] [hx : Pn.Ok x] [hy : Pn.Ok y] : callD T (k + 4) "both_have" [segD a b, segD x y] c = .ok (bothR a b x y).D c := by
  refine eq_of fun Q E hQ => call_body (fn := F.both_have) hf.h rfl ?_
  unfold F.both_have
  show wS (dSs _ _ [some (segD a b), some (segD x y), none, none, none, none, none, none, none] c) _
  refine seq (fun ρ' c' => ρ' = [some (segD a b), some (segD x y), some a.d, some b.d, some x.d, some y.d, none, none, none] ∧ c' = c) (fun I hI => ?_) ?_
  · simp (decide := true) only [↓ss_cons, ↓ss_nil, ↓s_set, ↓s_ret, ↓s_retN, ↓s_expr, ↓s_ife, ↓s_raise, ↓s_cnt, ↓s_brk, ↓s_pass, ↓s_setX, ↓s_for, ↓s_foS, ↓e_k, ↓e_tup, ↓e_lst, ↓e_call, ↓e_blt, ↓e_cmp, ↓e_bin, ↓e_neg, ↓e_and, ↓e_or, ↓e_not, ↓e_ite, ↓e_chain, ↓e_ix, ↓e_isi, ↓e_meth, ↓e_sl, ↓e_lam, ↓e_lc, ↓es_cons, ↓es_nil, ↓o_no, ↓b_add, ↓b_sub, ↓b_subB, ↓b_addB, ↓b_mul, ↓b_div, ↓b_mod, ↓b_pow, ↓b_addT, ↓b_mulT, ↓c_lt, ↓c_le, ↓c_gt, ↓c_ge, ↓c_isB, ↓c_isNotB, ↓c_isN, ↓c_isNotN, ↓t_abs, ↓t_int, ↓t_intB, ↓t_len, ↓t_min, ↓t_max, ↓t_tupT, ↓t_lstT, ↓i_v, ↓i_tup, ↓i_lst, ↓i_call, ↓i_ix, ↓i_sl, ↓lc_nil, ↓lc_cons, ↓w_lcB, ↓fo_nil, ↓fo_cons, ↓ts_nil, ↓ts_cons, ↓t_all, ↓t_any, ↓t_tup, ↓wI_int, ↓wR_ok, ↓v_0, ↓v_1, ↓v_2, ↓v_3, ↓v_4, ↓v_5, ↓v_6, ↓v_7, ↓v_8, ↓v_9, ↓v_10, ↓v_11, ↓v_12, ↓v_13, ↓v_14, ↓v_15, ↓v_16, ↓v_17, ↓v_18, ↓v_19, ↓v_20, ↓v_21, ↓v_22, ↓v_23, ↓v_24, ↓v_25, ↓v_26, ↓v_27, ↓v_28, ↓v_29, ↓v_30, ↓v_31, ↓as_0, ↓as_1, ↓as_2, ↓as_3, ↓as_4, ↓as_5, ↓as_6, ↓as_7, ↓as_8, ↓as_9, ↓as_10, ↓as_11, ↓as_12, ↓as_13, ↓as_14, ↓as_15, ↓as_16, ↓as_17, ↓as_18, ↓as_19, ↓as_20, ↓as_21, ↓as_22, ↓as_23, ↓as_24, ↓as_25, ↓as_26, ↓as_27, ↓as_28, ↓as_29, ↓as_30, ↓as_31, ↓as_t, ↓as_n, ↓as_c, ↓x1_0, ↓x2_0, ↓x2_1, ↓x3_0, ↓x3_1, ↓x3_2, ↓x4_0, ↓x4_1, ↓x4_2, ↓x4_3, ↓x5_0, ↓x5_1, ↓x5_2, ↓x5_3, ↓x5_4, ↓gc_id, ↓gc_bl, ↓gc_bl2, ↓gc_bl3, ↓gc_i, ↓gc_i2, ↓gc_n, ↓gc_n2, ↓gc_ex, ↓gc_ex0, ↓gc_ex2, ↓ce_ii, ↓ce_bb, ↓ce_2, ↓ce_3, ↓cn_ii, ↓cn_bb, ↓cn_2, ↓cn_3, ↓pk_bl, ↓pk_int, ↓pk_tn, ↓pk_tc, ↓pk_non, ↓nb_bl, ↓nb_int, ↓yt_non, ↓yt_bl, ↓yt_int, ↓yt_str, ↓yt_tup, ↓wp_tup, List.length_cons, List.length_nil, lim, Nat.reduceAdd, Nat.reduceLeDiff, true_and, and_true, is_ii, is_ib, is_bi, is_bb, is_tt, is_lt, is_it, is_nt, is_st, is_ni, is_si, is_ti, is_li, Bool.not_true, Bool.not_false, Bool.false_eq_true, if_true, if_false, abs_eq, Int.cast_ofNat_Int, BEq.rfl, beq_iff_eq, Int.reduceBEq, Int.reduceLT, Int.reduceLE, Int.reduceNeg, Int.reduceEq, List.all_cons, List.all_nil, id, Bool.and_true, Bool.true_and, Bool.and_self, same_nil', oc_some, oc_none, bls, wBs_some, wipe, Option.map_some, List.set_cons_zero, List.set_cons_succ, decide_true, decide_false, ↓reduceIte, decide_eq_true_eq, Bool.not_eq_true', ↓p_0, ↓p_1, ↓p_2, ↓p_len, ↓p_eq, ↓p_ne, ↓p_ty, ↓p_items, ↓e_rv, ↓rv_2, mulOk_sm]
    exact hI _ _ ⟨rfl, rfl⟩
  rintro _ c' ⟨rfl, h0⟩
  rw [h0]; clear h0 c'
  refine seq (fun ρ' c' => ρ' = [some (segD a b), some (segD x y), some a.d, some b.d, some x.d, some y.d, some (.tup [.int (sideP a b x), .int (sideP a b y), .int (sideP x y a), .int (sideP x y b)]), none, none] ∧ c' = c) (fun I hI => ?_) ?_
  · simp (decide := true) only [↓ss_cons, ↓ss_nil, ↓s_set, ↓s_ret, ↓s_retN, ↓s_expr, ↓s_ife, ↓s_raise, ↓s_cnt, ↓s_brk, ↓s_pass, ↓s_setX, ↓s_for, ↓s_foS, ↓e_k, ↓e_tup, ↓e_lst, ↓e_call, ↓e_blt, ↓e_cmp, ↓e_bin, ↓e_neg, ↓e_and, ↓e_or, ↓e_not, ↓e_ite, ↓e_chain, ↓e_ix, ↓e_isi, ↓e_meth, ↓e_sl, ↓e_lam, ↓e_lc, ↓es_cons, ↓es_nil, ↓o_no, ↓b_add, ↓b_sub, ↓b_subB, ↓b_addB, ↓b_mul, ↓b_div, ↓b_mod, ↓b_pow, ↓b_addT, ↓b_mulT, ↓c_lt, ↓c_le, ↓c_gt, ↓c_ge, ↓c_isB, ↓c_isNotB, ↓c_isN, ↓c_isNotN, ↓t_abs, ↓t_int, ↓t_intB, ↓t_len, ↓t_min, ↓t_max, ↓t_tupT, ↓t_lstT, ↓i_v, ↓i_tup, ↓i_lst, ↓i_call, ↓i_ix, ↓i_sl, ↓lc_nil, ↓lc_cons, ↓w_lcB, ↓fo_nil, ↓fo_cons, ↓ts_nil, ↓ts_cons, ↓t_all, ↓t_any, ↓t_tup, ↓wI_int, ↓wR_ok, ↓v_0, ↓v_1, ↓v_2, ↓v_3, ↓v_4, ↓v_5, ↓v_6, ↓v_7, ↓v_8, ↓v_9, ↓v_10, ↓v_11, ↓v_12, ↓v_13, ↓v_14, ↓v_15, ↓v_16, ↓v_17, ↓v_18, ↓v_19, ↓v_20, ↓v_21, ↓v_22, ↓v_23, ↓v_24, ↓v_25, ↓v_26, ↓v_27, ↓v_28, ↓v_29, ↓v_30, ↓v_31, ↓as_0, ↓as_1, ↓as_2, ↓as_3, ↓as_4, ↓as_5, ↓as_6, ↓as_7, ↓as_8, ↓as_9, ↓as_10, ↓as_11, ↓as_12, ↓as_13, ↓as_14, ↓as_15, ↓as_16, ↓as_17, ↓as_18, ↓as_19, ↓as_20, ↓as_21, ↓as_22, ↓as_23, ↓as_24, ↓as_25, ↓as_26, ↓as_27, ↓as_28, ↓as_29, ↓as_30, ↓as_31, ↓as_t, ↓as_n, ↓as_c, ↓x1_0, ↓x2_0, ↓x2_1, ↓x3_0, ↓x3_1, ↓x3_2, ↓x4_0, ↓x4_1, ↓x4_2, ↓x4_3, ↓x5_0, ↓x5_1, ↓x5_2, ↓x5_3, ↓x5_4, ↓gc_id, ↓gc_bl, ↓gc_bl2, ↓gc_bl3, ↓gc_i, ↓gc_i2, ↓gc_n, ↓gc_n2, ↓gc_ex, ↓gc_ex0, ↓gc_ex2, ↓ce_ii, ↓ce_bb, ↓ce_2, ↓ce_3, ↓cn_ii, ↓cn_bb, ↓cn_2, ↓cn_3, ↓pk_bl, ↓pk_int, ↓pk_tn, ↓pk_tc, ↓pk_non, ↓nb_bl, ↓nb_int, ↓yt_non, ↓yt_bl, ↓yt_int, ↓yt_str, ↓yt_tup, ↓wp_tup, List.length_cons, List.length_nil, lim, Nat.reduceAdd, Nat.reduceLeDiff, true_and, and_true, is_ii, is_ib, is_bi, is_bb, is_tt, is_lt, is_it, is_nt, is_st, is_ni, is_si, is_ti, is_li, Bool.not_true, Bool.not_false, Bool.false_eq_true, if_true, if_false, abs_eq, Int.cast_ofNat_Int, BEq.rfl, beq_iff_eq, Int.reduceBEq, Int.reduceLT, Int.reduceLE, Int.reduceNeg, Int.reduceEq, List.all_cons, List.all_nil, id, Bool.and_true, Bool.true_and, Bool.and_self, same_nil', oc_some, oc_none, bls, wBs_some, wipe, Option.map_some, List.set_cons_zero, List.set_cons_succ, decide_true, decide_false, ↓reduceIte, decide_eq_true_eq, Bool.not_eq_true', ↓p_0, ↓p_1, ↓p_2, ↓p_len, ↓p_eq, ↓p_ne, ↓p_ty, ↓p_items, ↓e_rv, ↓rv_2, mulOk_sm, ↓w_of _ _ (side_e _ _ _ _ _)]
    exact hI _ _ ⟨rfl, rfl⟩
  rintro _ c' ⟨rfl, h0⟩
  rw [h0]; clear h0 c'
  unfold bothR at hQ
  by_cases h : sideP a b x = 0 ∧ sideP a b y = 0
  · rw [if_pos h] at hQ
    rw [ss_cons, s_ife]
    have h1 : (sideP a b x == 0) = true := by simpa using h.1
    have h2 : (sideP a b y == 0) = true := by simpa using h.2
    simp (decide := true) only [↓e_and, ↓e_cmp, ↓e_ix, ↓v_6, ↓e_k, ↓x4_0, ↓x4_1, ↓ce_ii, ↓pk_bl, h1, h2, if_true]
    refine seq (fun ρ' c' => ρ' = [some (segD a b), some (segD x y), some (loP a b).d, some (hiP a b).d, some x.d, some y.d, some (.tup [.int (sideP a b x), .int (sideP a b y), .int (sideP x y a), .int (sideP x y b)]), none, none] ∧ c' = c) (fun I hI => ?_) ?_
    · by_cases g : cmpP a b < 0
      · rw [show loP a b = a from if_pos g, show hiP a b = b from if_pos g] at hI
        simp (decide := true) only [↓ss_cons, ↓ss_nil, ↓s_set, ↓s_ret, ↓s_retN, ↓s_expr, ↓s_ife, ↓s_raise, ↓s_cnt, ↓s_brk, ↓s_pass, ↓s_setX, ↓s_for, ↓s_foS, ↓e_k, ↓e_tup, ↓e_lst, ↓e_call, ↓e_blt, ↓e_cmp, ↓e_bin, ↓e_neg, ↓e_and, ↓e_or, ↓e_not, ↓e_ite, ↓e_chain, ↓e_ix, ↓e_isi, ↓e_meth, ↓e_sl, ↓e_lam, ↓e_lc, ↓es_cons, ↓es_nil, ↓o_no, ↓b_add, ↓b_sub, ↓b_subB, ↓b_addB, ↓b_mul, ↓b_div, ↓b_mod, ↓b_pow, ↓b_addT, ↓b_mulT, ↓c_lt, ↓c_le, ↓c_gt, ↓c_ge, ↓c_isB, ↓c_isNotB, ↓c_isN, ↓c_isNotN, ↓t_abs, ↓t_int, ↓t_intB, ↓t_len, ↓t_min, ↓t_max, ↓t_tupT, ↓t_lstT, ↓i_v, ↓i_tup, ↓i_lst, ↓i_call, ↓i_ix, ↓i_sl, ↓lc_nil, ↓lc_cons, ↓w_lcB, ↓fo_nil, ↓fo_cons, ↓ts_nil, ↓ts_cons, ↓t_all, ↓t_any, ↓t_tup, ↓wI_int, ↓wR_ok, ↓v_0, ↓v_1, ↓v_2, ↓v_3, ↓v_4, ↓v_5, ↓v_6, ↓v_7, ↓v_8, ↓v_9, ↓v_10, ↓v_11, ↓v_12, ↓v_13, ↓v_14, ↓v_15, ↓v_16, ↓v_17, ↓v_18, ↓v_19, ↓v_20, ↓v_21, ↓v_22, ↓v_23, ↓v_24, ↓v_25, ↓v_26, ↓v_27, ↓v_28, ↓v_29, ↓v_30, ↓v_31, ↓as_0, ↓as_1, ↓as_2, ↓as_3, ↓as_4, ↓as_5, ↓as_6, ↓as_7, ↓as_8, ↓as_9, ↓as_10, ↓as_11, ↓as_12, ↓as_13, ↓as_14, ↓as_15, ↓as_16, ↓as_17, ↓as_18, ↓as_19, ↓as_20, ↓as_21, ↓as_22, ↓as_23, ↓as_24, ↓as_25, ↓as_26, ↓as_27, ↓as_28, ↓as_29, ↓as_30, ↓as_31, ↓as_t, ↓as_n, ↓as_c, ↓x1_0, ↓x2_0, ↓x2_1, ↓x3_0, ↓x3_1, ↓x3_2, ↓x4_0, ↓x4_1, ↓x4_2, ↓x4_3, ↓x5_0, ↓x5_1, ↓x5_2, ↓x5_3, ↓x5_4, ↓gc_id, ↓gc_bl, ↓gc_bl2, ↓gc_bl3, ↓gc_i, ↓gc_i2, ↓gc_n, ↓gc_n2, ↓gc_ex, ↓gc_ex0, ↓gc_ex2, ↓ce_ii, ↓ce_bb, ↓ce_2, ↓ce_3, ↓cn_ii, ↓cn_bb, ↓cn_2, ↓cn_3, ↓pk_bl, ↓pk_int, ↓pk_tn, ↓pk_tc, ↓pk_non, ↓nb_bl, ↓nb_int, ↓yt_non, ↓yt_bl, ↓yt_int, ↓yt_str, ↓yt_tup, ↓wp_tup, List.length_cons, List.length_nil, lim, Nat.reduceAdd, Nat.reduceLeDiff, true_and, and_true, is_ii, is_ib, is_bi, is_bb, is_tt, is_lt, is_it, is_nt, is_st, is_ni, is_si, is_ti, is_li, Bool.not_true, Bool.not_false, Bool.false_eq_true, if_true, if_false, abs_eq, Int.cast_ofNat_Int, BEq.rfl, beq_iff_eq, Int.reduceBEq, Int.reduceLT, Int.reduceLE, Int.reduceNeg, Int.reduceEq, List.all_cons, List.all_nil, id, Bool.and_true, Bool.true_and, Bool.and_self, same_nil', oc_some, oc_none, bls, wBs_some, wipe, Option.map_some, List.set_cons_zero, List.set_cons_succ, decide_true, decide_false, ↓reduceIte, decide_eq_true_eq, Bool.not_eq_true', ↓p_0, ↓p_1, ↓p_2, ↓p_len, ↓p_eq, ↓p_ne, ↓p_ty, ↓p_items, ↓e_rv, ↓rv_2, mulOk_sm, ↓w_of _ _ (compared_e _ _ _ _), g]
        exact hI _ _ ⟨rfl, rfl⟩
      · rw [show loP a b = b from if_neg g, show hiP a b = a from if_neg g] at hI
        simp (decide := true) only [↓ss_cons, ↓ss_nil, ↓s_set, ↓s_ret, ↓s_retN, ↓s_expr, ↓s_ife, ↓s_raise, ↓s_cnt, ↓s_brk, ↓s_pass, ↓s_setX, ↓s_for, ↓s_foS, ↓e_k, ↓e_tup, ↓e_lst, ↓e_call, ↓e_blt, ↓e_cmp, ↓e_bin, ↓e_neg, ↓e_and, ↓e_or, ↓e_not, ↓e_ite, ↓e_chain, ↓e_ix, ↓e_isi, ↓e_meth, ↓e_sl, ↓e_lam, ↓e_lc, ↓es_cons, ↓es_nil, ↓o_no, ↓b_add, ↓b_sub, ↓b_subB, ↓b_addB, ↓b_mul, ↓b_div, ↓b_mod, ↓b_pow, ↓b_addT, ↓b_mulT, ↓c_lt, ↓c_le, ↓c_gt, ↓c_ge, ↓c_isB, ↓c_isNotB, ↓c_isN, ↓c_isNotN, ↓t_abs, ↓t_int, ↓t_intB, ↓t_len, ↓t_min, ↓t_max, ↓t_tupT, ↓t_lstT, ↓i_v, ↓i_tup, ↓i_lst, ↓i_call, ↓i_ix, ↓i_sl, ↓lc_nil, ↓lc_cons, ↓w_lcB, ↓fo_nil, ↓fo_cons, ↓ts_nil, ↓ts_cons, ↓t_all, ↓t_any, ↓t_tup, ↓wI_int, ↓wR_ok, ↓v_0, ↓v_1, ↓v_2, ↓v_3, ↓v_4, ↓v_5, ↓v_6, ↓v_7, ↓v_8, ↓v_9, ↓v_10, ↓v_11, ↓v_12, ↓v_13, ↓v_14, ↓v_15, ↓v_16, ↓v_17, ↓v_18, ↓v_19, ↓v_20, ↓v_21, ↓v_22, ↓v_23, ↓v_24, ↓v_25, ↓v_26, ↓v_27, ↓v_28, ↓v_29, ↓v_30, ↓v_31, ↓as_0, ↓as_1, ↓as_2, ↓as_3, ↓as_4, ↓as_5, ↓as_6, ↓as_7, ↓as_8, ↓as_9, ↓as_10, ↓as_11, ↓as_12, ↓as_13, ↓as_14, ↓as_15, ↓as_16, ↓as_17, ↓as_18, ↓as_19, ↓as_20, ↓as_21, ↓as_22, ↓as_23, ↓as_24, ↓as_25, ↓as_26, ↓as_27, ↓as_28, ↓as_29, ↓as_30, ↓as_31, ↓as_t, ↓as_n, ↓as_c, ↓x1_0, ↓x2_0, ↓x2_1, ↓x3_0, ↓x3_1, ↓x3_2, ↓x4_0, ↓x4_1, ↓x4_2, ↓x4_3, ↓x5_0, ↓x5_1, ↓x5_2, ↓x5_3, ↓x5_4, ↓gc_id, ↓gc_bl, ↓gc_bl2, ↓gc_bl3, ↓gc_i, ↓gc_i2, ↓gc_n, ↓gc_n2, ↓gc_ex, ↓gc_ex0, ↓gc_ex2, ↓ce_ii, ↓ce_bb, ↓ce_2, ↓ce_3, ↓cn_ii, ↓cn_bb, ↓cn_2, ↓cn_3, ↓pk_bl, ↓pk_int, ↓pk_tn, ↓pk_tc, ↓pk_non, ↓nb_bl, ↓nb_int, ↓yt_non, ↓yt_bl, ↓yt_int, ↓yt_str, ↓yt_tup, ↓wp_tup, List.length_cons, List.length_nil, lim, Nat.reduceAdd, Nat.reduceLeDiff, true_and, and_true, is_ii, is_ib, is_bi, is_bb, is_tt, is_lt, is_it, is_nt, is_st, is_ni, is_si, is_ti, is_li, Bool.not_true, Bool.not_false, Bool.false_eq_true, if_true, if_false, abs_eq, Int.cast_ofNat_Int, BEq.rfl, beq_iff_eq, Int.reduceBEq, Int.reduceLT, Int.reduceLE, Int.reduceNeg, Int.reduceEq, List.all_cons, List.all_nil, id, Bool.and_true, Bool.true_and, Bool.and_self, same_nil', oc_some, oc_none, bls, wBs_some, wipe, Option.map_some, List.set_cons_zero, List.set_cons_succ, decide_true, decide_false, ↓reduceIte, decide_eq_true_eq, Bool.not_eq_true', ↓p_0, ↓p_1, ↓p_2, ↓p_len, ↓p_eq, ↓p_ne, ↓p_ty, ↓p_items, ↓e_rv, ↓rv_2, mulOk_sm, ↓w_of _ _ (compared_e _ _ _ _), g]
        exact hI _ _ ⟨rfl, rfl⟩
    rintro _ c' ⟨rfl, h0⟩
    rw [h0]; clear h0 c'
    refine seq (fun ρ' c' => ρ' = [some (segD a b), some (segD x y), some (loP a b).d, some (hiP a b).d, some (loP x y).d, some (hiP x y).d, some (.tup [.int (sideP a b x), .int (sideP a b y), .int (sideP x y a), .int (sideP x y b)]), none, none] ∧ c' = c) (fun I hI => ?_) ?_
    · by_cases g : cmpP x y < 0
      · rw [show loP x y = x from if_pos g, show hiP x y = y from if_pos g] at hI
        simp (decide := true) only [↓ss_cons, ↓ss_nil, ↓s_set, ↓s_ret, ↓s_retN, ↓s_expr, ↓s_ife, ↓s_raise, ↓s_cnt, ↓s_brk, ↓s_pass, ↓s_setX, ↓s_for, ↓s_foS, ↓e_k, ↓e_tup, ↓e_lst, ↓e_call, ↓e_blt, ↓e_cmp, ↓e_bin, ↓e_neg, ↓e_and, ↓e_or, ↓e_not, ↓e_ite, ↓e_chain, ↓e_ix, ↓e_isi, ↓e_meth, ↓e_sl, ↓e_lam, ↓e_lc, ↓es_cons, ↓es_nil, ↓o_no, ↓b_add, ↓b_sub, ↓b_subB, ↓b_addB, ↓b_mul, ↓b_div, ↓b_mod, ↓b_pow, ↓b_addT, ↓b_mulT, ↓c_lt, ↓c_le, ↓c_gt, ↓c_ge, ↓c_isB, ↓c_isNotB, ↓c_isN, ↓c_isNotN, ↓t_abs, ↓t_int, ↓t_intB, ↓t_len, ↓t_min, ↓t_max, ↓t_tupT, ↓t_lstT, ↓i_v, ↓i_tup, ↓i_lst, ↓i_call, ↓i_ix, ↓i_sl, ↓lc_nil, ↓lc_cons, ↓w_lcB, ↓fo_nil, ↓fo_cons, ↓ts_nil, ↓ts_cons, ↓t_all, ↓t_any, ↓t_tup, ↓wI_int, ↓wR_ok, ↓v_0, ↓v_1, ↓v_2, ↓v_3, ↓v_4, ↓v_5, ↓v_6, ↓v_7, ↓v_8, ↓v_9, ↓v_10, ↓v_11, ↓v_12, ↓v_13, ↓v_14, ↓v_15, ↓v_16, ↓v_17, ↓v_18, ↓v_19, ↓v_20, ↓v_21, ↓v_22, ↓v_23, ↓v_24, ↓v_25, ↓v_26, ↓v_27, ↓v_28, ↓v_29, ↓v_30, ↓v_31, ↓as_0, ↓as_1, ↓as_2, ↓as_3, ↓as_4, ↓as_5, ↓as_6, ↓as_7, ↓as_8, ↓as_9, ↓as_10, ↓as_11, ↓as_12, ↓as_13, ↓as_14, ↓as_15, ↓as_16, ↓as_17, ↓as_18, ↓as_19, ↓as_20, ↓as_21, ↓as_22, ↓as_23, ↓as_24, ↓as_25, ↓as_26, ↓as_27, ↓as_28, ↓as_29, ↓as_30, ↓as_31, ↓as_t, ↓as_n, ↓as_c, ↓x1_0, ↓x2_0, ↓x2_1, ↓x3_0, ↓x3_1, ↓x3_2, ↓x4_0, ↓x4_1, ↓x4_2, ↓x4_3, ↓x5_0, ↓x5_1, ↓x5_2, ↓x5_3, ↓x5_4, ↓gc_id, ↓gc_bl, ↓gc_bl2, ↓gc_bl3, ↓gc_i, ↓gc_i2, ↓gc_n, ↓gc_n2, ↓gc_ex, ↓gc_ex0, ↓gc_ex2, ↓ce_ii, ↓ce_bb, ↓ce_2, ↓ce_3, ↓cn_ii, ↓cn_bb, ↓cn_2, ↓cn_3, ↓pk_bl, ↓pk_int, ↓pk_tn, ↓pk_tc, ↓pk_non, ↓nb_bl, ↓nb_int, ↓yt_non, ↓yt_bl, ↓yt_int, ↓yt_str, ↓yt_tup, ↓wp_tup, List.length_cons, List.length_nil, lim, Nat.reduceAdd, Nat.reduceLeDiff, true_and, and_true, is_ii, is_ib, is_bi, is_bb, is_tt, is_lt, is_it, is_nt, is_st, is_ni, is_si, is_ti, is_li, Bool.not_true, Bool.not_false, Bool.false_eq_true, if_true, if_false, abs_eq, Int.cast_ofNat_Int, BEq.rfl, beq_iff_eq, Int.reduceBEq, Int.reduceLT, Int.reduceLE, Int.reduceNeg, Int.reduceEq, List.all_cons, List.all_nil, id, Bool.and_true, Bool.true_and, Bool.and_self, same_nil', oc_some, oc_none, bls, wBs_some, wipe, Option.map_some, List.set_cons_zero, List.set_cons_succ, decide_true, decide_false, ↓reduceIte, decide_eq_true_eq, Bool.not_eq_true', ↓p_0, ↓p_1, ↓p_2, ↓p_len, ↓p_eq, ↓p_ne, ↓p_ty, ↓p_items, ↓e_rv, ↓rv_2, mulOk_sm, ↓w_of _ _ (compared_e _ _ _ _), g]
        exact hI _ _ ⟨rfl, rfl⟩
      · rw [show loP x y = y from if_neg g, show hiP x y = x from if_neg g] at hI
        simp (decide := true) only [↓ss_cons, ↓ss_nil, ↓s_set, ↓s_ret, ↓s_retN, ↓s_expr, ↓s_ife, ↓s_raise, ↓s_cnt, ↓s_brk, ↓s_pass, ↓s_setX, ↓s_for, ↓s_foS, ↓e_k, ↓e_tup, ↓e_lst, ↓e_call, ↓e_blt, ↓e_cmp, ↓e_bin, ↓e_neg, ↓e_and, ↓e_or, ↓e_not, ↓e_ite, ↓e_chain, ↓e_ix, ↓e_isi, ↓e_meth, ↓e_sl, ↓e_lam, ↓e_lc, ↓es_cons, ↓es_nil, ↓o_no, ↓b_add, ↓b_sub, ↓b_subB, ↓b_addB, ↓b_mul, ↓b_div, ↓b_mod, ↓b_pow, ↓b_addT, ↓b_mulT, ↓c_lt, ↓c_le, ↓c_gt, ↓c_ge, ↓c_isB, ↓c_isNotB, ↓c_isN, ↓c_isNotN, ↓t_abs, ↓t_int, ↓t_intB, ↓t_len, ↓t_min, ↓t_max, ↓t_tupT, ↓t_lstT, ↓i_v, ↓i_tup, ↓i_lst, ↓i_call, ↓i_ix, ↓i_sl, ↓lc_nil, ↓lc_cons, ↓w_lcB, ↓fo_nil, ↓fo_cons, ↓ts_nil, ↓ts_cons, ↓t_all, ↓t_any, ↓t_tup, ↓wI_int, ↓wR_ok, ↓v_0, ↓v_1, ↓v_2, ↓v_3, ↓v_4, ↓v_5, ↓v_6, ↓v_7, ↓v_8, ↓v_9, ↓v_10, ↓v_11, ↓v_12, ↓v_13, ↓v_14, ↓v_15, ↓v_16, ↓v_17, ↓v_18, ↓v_19, ↓v_20, ↓v_21, ↓v_22, ↓v_23, ↓v_24, ↓v_25, ↓v_26, ↓v_27, ↓v_28, ↓v_29, ↓v_30, ↓v_31, ↓as_0, ↓as_1, ↓as_2, ↓as_3, ↓as_4, ↓as_5, ↓as_6, ↓as_7, ↓as_8, ↓as_9, ↓as_10, ↓as_11, ↓as_12, ↓as_13, ↓as_14, ↓as_15, ↓as_16, ↓as_17, ↓as_18, ↓as_19, ↓as_20, ↓as_21, ↓as_22, ↓as_23, ↓as_24, ↓as_25, ↓as_26, ↓as_27, ↓as_28, ↓as_29, ↓as_30, ↓as_31, ↓as_t, ↓as_n, ↓as_c, ↓x1_0, ↓x2_0, ↓x2_1, ↓x3_0, ↓x3_1, ↓x3_2, ↓x4_0, ↓x4_1, ↓x4_2, ↓x4_3, ↓x5_0, ↓x5_1, ↓x5_2, ↓x5_3, ↓x5_4, ↓gc_id, ↓gc_bl, ↓gc_bl2, ↓gc_bl3, ↓gc_i, ↓gc_i2, ↓gc_n, ↓gc_n2, ↓gc_ex, ↓gc_ex0, ↓gc_ex2, ↓ce_ii, ↓ce_bb, ↓ce_2, ↓ce_3, ↓cn_ii, ↓cn_bb, ↓cn_2, ↓cn_3, ↓pk_bl, ↓pk_int, ↓pk_tn, ↓pk_tc, ↓pk_non, ↓nb_bl, ↓nb_int, ↓yt_non, ↓yt_bl, ↓yt_int, ↓yt_str, ↓yt_tup, ↓wp_tup, List.length_cons, List.length_nil, lim, Nat.reduceAdd, Nat.reduceLeDiff, true_and, and_true, is_ii, is_ib, is_bi, is_bb, is_tt, is_lt, is_it, is_nt, is_st, is_ni, is_si, is_ti, is_li, Bool.not_true, Bool.not_false, Bool.false_eq_true, if_true, if_false, abs_eq, Int.cast_ofNat_Int, BEq.rfl, beq_iff_eq, Int.reduceBEq, Int.reduceLT, Int.reduceLE, Int.reduceNeg, Int.reduceEq, List.all_cons, List.all_nil, id, Bool.and_true, Bool.true_and, Bool.and_self, same_nil', oc_some, oc_none, bls, wBs_some, wipe, Option.map_some, List.set_cons_zero, List.set_cons_succ, decide_true, decide_false, ↓reduceIte, decide_eq_true_eq, Bool.not_eq_true', ↓p_0, ↓p_1, ↓p_2, ↓p_len, ↓p_eq, ↓p_ne, ↓p_ty, ↓p_items, ↓e_rv, ↓rv_2, mulOk_sm, ↓w_of _ _ (compared_e _ _ _ _), g]
        exact hI _ _ ⟨rfl, rfl⟩
    rintro _ c' ⟨rfl, h0⟩
    rw [h0]; clear h0 c'
    refine seq (fun ρ' c' => ρ' = [some (segD a b), some (segD x y), some (loP a b).d, some (hiP a b).d, some (loP x y).d, some (hiP x y).d, some (.tup [.int (sideP a b x), .int (sideP a b y), .int (sideP x y a), .int (sideP x y b)]), some (maxP (loP a b) (loP x y)).d, none] ∧ c' = c) (fun I hI => ?_) ?_
    · by_cases g : 0 < cmpP (loP a b) (loP x y)
      · rw [show maxP (loP a b) (loP x y) = loP a b from if_pos g] at hI
        simp (decide := true) only [↓ss_cons, ↓ss_nil, ↓s_set, ↓s_ret, ↓s_retN, ↓s_expr, ↓s_ife, ↓s_raise, ↓s_cnt, ↓s_brk, ↓s_pass, ↓s_setX, ↓s_for, ↓s_foS, ↓e_k, ↓e_tup, ↓e_lst, ↓e_call, ↓e_blt, ↓e_cmp, ↓e_bin, ↓e_neg, ↓e_and, ↓e_or, ↓e_not, ↓e_ite, ↓e_chain, ↓e_ix, ↓e_isi, ↓e_meth, ↓e_sl, ↓e_lam, ↓e_lc, ↓es_cons, ↓es_nil, ↓o_no, ↓b_add, ↓b_sub, ↓b_subB, ↓b_addB, ↓b_mul, ↓b_div, ↓b_mod, ↓b_pow, ↓b_addT, ↓b_mulT, ↓c_lt, ↓c_le, ↓c_gt, ↓c_ge, ↓c_isB, ↓c_isNotB, ↓c_isN, ↓c_isNotN, ↓t_abs, ↓t_int, ↓t_intB, ↓t_len, ↓t_min, ↓t_max, ↓t_tupT, ↓t_lstT, ↓i_v, ↓i_tup, ↓i_lst, ↓i_call, ↓i_ix, ↓i_sl, ↓lc_nil, ↓lc_cons, ↓w_lcB, ↓fo_nil, ↓fo_cons, ↓ts_nil, ↓ts_cons, ↓t_all, ↓t_any, ↓t_tup, ↓wI_int, ↓wR_ok, ↓v_0, ↓v_1, ↓v_2, ↓v_3, ↓v_4, ↓v_5, ↓v_6, ↓v_7, ↓v_8, ↓v_9, ↓v_10, ↓v_11, ↓v_12, ↓v_13, ↓v_14, ↓v_15, ↓v_16, ↓v_17, ↓v_18, ↓v_19, ↓v_20, ↓v_21, ↓v_22, ↓v_23, ↓v_24, ↓v_25, ↓v_26, ↓v_27, ↓v_28, ↓v_29, ↓v_30, ↓v_31, ↓as_0, ↓as_1, ↓as_2, ↓as_3, ↓as_4, ↓as_5, ↓as_6, ↓as_7, ↓as_8, ↓as_9, ↓as_10, ↓as_11, ↓as_12, ↓as_13, ↓as_14, ↓as_15, ↓as_16, ↓as_17, ↓as_18, ↓as_19, ↓as_20, ↓as_21, ↓as_22, ↓as_23, ↓as_24, ↓as_25, ↓as_26, ↓as_27, ↓as_28, ↓as_29, ↓as_30, ↓as_31, ↓as_t, ↓as_n, ↓as_c, ↓x1_0, ↓x2_0, ↓x2_1, ↓x3_0, ↓x3_1, ↓x3_2, ↓x4_0, ↓x4_1, ↓x4_2, ↓x4_3, ↓x5_0, ↓x5_1, ↓x5_2, ↓x5_3, ↓x5_4, ↓gc_id, ↓gc_bl, ↓gc_bl2, ↓gc_bl3, ↓gc_i, ↓gc_i2, ↓gc_n, ↓gc_n2, ↓gc_ex, ↓gc_ex0, ↓gc_ex2, ↓ce_ii, ↓ce_bb, ↓ce_2, ↓ce_3, ↓cn_ii, ↓cn_bb, ↓cn_2, ↓cn_3, ↓pk_bl, ↓pk_int, ↓pk_tn, ↓pk_tc, ↓pk_non, ↓nb_bl, ↓nb_int, ↓yt_non, ↓yt_bl, ↓yt_int, ↓yt_str, ↓yt_tup, ↓wp_tup, List.length_cons, List.length_nil, lim, Nat.reduceAdd, Nat.reduceLeDiff, true_and, and_true, is_ii, is_ib, is_bi, is_bb, is_tt, is_lt, is_it, is_nt, is_st, is_ni, is_si, is_ti, is_li, Bool.not_true, Bool.not_false, Bool.false_eq_true, if_true, if_false, abs_eq, Int.cast_ofNat_Int, BEq.rfl, beq_iff_eq, Int.reduceBEq, Int.reduceLT, Int.reduceLE, Int.reduceNeg, Int.reduceEq, List.all_cons, List.all_nil, id, Bool.and_true, Bool.true_and, Bool.and_self, same_nil', oc_some, oc_none, bls, wBs_some, wipe, Option.map_some, List.set_cons_zero, List.set_cons_succ, decide_true, decide_false, ↓reduceIte, decide_eq_true_eq, Bool.not_eq_true', ↓p_0, ↓p_1, ↓p_2, ↓p_len, ↓p_eq, ↓p_ne, ↓p_ty, ↓p_items, ↓e_rv, ↓rv_2, mulOk_sm, ↓w_of _ _ (compared_e _ _ _ _), g]
        exact hI _ _ ⟨rfl, rfl⟩
      · rw [show maxP (loP a b) (loP x y) = loP x y from if_neg g] at hI
        simp (decide := true) only [↓ss_cons, ↓ss_nil, ↓s_set, ↓s_ret, ↓s_retN, ↓s_expr, ↓s_ife, ↓s_raise, ↓s_cnt, ↓s_brk, ↓s_pass, ↓s_setX, ↓s_for, ↓s_foS, ↓e_k, ↓e_tup, ↓e_lst, ↓e_call, ↓e_blt, ↓e_cmp, ↓e_bin, ↓e_neg, ↓e_and, ↓e_or, ↓e_not, ↓e_ite, ↓e_chain, ↓e_ix, ↓e_isi, ↓e_meth, ↓e_sl, ↓e_lam, ↓e_lc, ↓es_cons, ↓es_nil, ↓o_no, ↓b_add, ↓b_sub, ↓b_subB, ↓b_addB, ↓b_mul, ↓b_div, ↓b_mod, ↓b_pow, ↓b_addT, ↓b_mulT, ↓c_lt, ↓c_le, ↓c_gt, ↓c_ge, ↓c_isB, ↓c_isNotB, ↓c_isN, ↓c_isNotN, ↓t_abs, ↓t_int, ↓t_intB, ↓t_len, ↓t_min, ↓t_max, ↓t_tupT, ↓t_lstT, ↓i_v, ↓i_tup, ↓i_lst, ↓i_call, ↓i_ix, ↓i_sl, ↓lc_nil, ↓lc_cons, ↓w_lcB, ↓fo_nil, ↓fo_cons, ↓ts_nil, ↓ts_cons, ↓t_all, ↓t_any, ↓t_tup, ↓wI_int, ↓wR_ok, ↓v_0, ↓v_1, ↓v_2, ↓v_3, ↓v_4, ↓v_5, ↓v_6, ↓v_7, ↓v_8, ↓v_9, ↓v_10, ↓v_11, ↓v_12, ↓v_13, ↓v_14, ↓v_15, ↓v_16, ↓v_17, ↓v_18, ↓v_19, ↓v_20, ↓v_21, ↓v_22, ↓v_23, ↓v_24, ↓v_25, ↓v_26, ↓v_27, ↓v_28, ↓v_29, ↓v_30, ↓v_31, ↓as_0, ↓as_1, ↓as_2, ↓as_3, ↓as_4, ↓as_5, ↓as_6, ↓as_7, ↓as_8, ↓as_9, ↓as_10, ↓as_11, ↓as_12, ↓as_13, ↓as_14, ↓as_15, ↓as_16, ↓as_17, ↓as_18, ↓as_19, ↓as_20, ↓as_21, ↓as_22, ↓as_23, ↓as_24, ↓as_25, ↓as_26, ↓as_27, ↓as_28, ↓as_29, ↓as_30, ↓as_31, ↓as_t, ↓as_n, ↓as_c, ↓x1_0, ↓x2_0, ↓x2_1, ↓x3_0, ↓x3_1, ↓x3_2, ↓x4_0, ↓x4_1, ↓x4_2, ↓x4_3, ↓x5_0, ↓x5_1, ↓x5_2, ↓x5_3, ↓x5_4, ↓gc_id, ↓gc_bl, ↓gc_bl2, ↓gc_bl3, ↓gc_i, ↓gc_i2, ↓gc_n, ↓gc_n2, ↓gc_ex, ↓gc_ex0, ↓gc_ex2, ↓ce_ii, ↓ce_bb, ↓ce_2, ↓ce_3, ↓cn_ii, ↓cn_bb, ↓cn_2, ↓cn_3, ↓pk_bl, ↓pk_int, ↓pk_tn, ↓pk_tc, ↓pk_non, ↓nb_bl, ↓nb_int, ↓yt_non, ↓yt_bl, ↓yt_int, ↓yt_str, ↓yt_tup, ↓wp_tup, List.length_cons, List.length_nil, lim, Nat.reduceAdd, Nat.reduceLeDiff, true_and, and_true, is_ii, is_ib, is_bi, is_bb, is_tt, is_lt, is_it, is_nt, is_st, is_ni, is_si, is_ti, is_li, Bool.not_true, Bool.not_false, Bool.false_eq_true, if_true, if_false, abs_eq, Int.cast_ofNat_Int, BEq.rfl, beq_iff_eq, Int.reduceBEq, Int.reduceLT, Int.reduceLE, Int.reduceNeg, Int.reduceEq, List.all_cons, List.all_nil, id, Bool.and_true, Bool.true_and, Bool.and_self, same_nil', oc_some, oc_none, bls, wBs_some, wipe, Option.map_some, List.set_cons_zero, List.set_cons_succ, decide_true, decide_false, ↓reduceIte, decide_eq_true_eq, Bool.not_eq_true', ↓p_0, ↓p_1, ↓p_2, ↓p_len, ↓p_eq, ↓p_ne, ↓p_ty, ↓p_items, ↓e_rv, ↓rv_2, mulOk_sm, ↓w_of _ _ (compared_e _ _ _ _), g]
        exact hI _ _ ⟨rfl, rfl⟩
    rintro _ c' ⟨rfl, h0⟩
    rw [h0]; clear h0 c'
    refine seq (fun ρ' c' => ρ' = [some (segD a b), some (segD x y), some (loP a b).d, some (hiP a b).d, some (loP x y).d, some (hiP x y).d, some (.tup [.int (sideP a b x), .int (sideP a b y), .int (sideP x y a), .int (sideP x y b)]), some (maxP (loP a b) (loP x y)).d, some (minP (hiP a b) (hiP x y)).d] ∧ c' = c) (fun I hI => ?_) ?_
    · by_cases g : cmpP (hiP a b) (hiP x y) < 0
      · rw [show minP (hiP a b) (hiP x y) = hiP a b from if_pos g] at hI
        simp (decide := true) only [↓ss_cons, ↓ss_nil, ↓s_set, ↓s_ret, ↓s_retN, ↓s_expr, ↓s_ife, ↓s_raise, ↓s_cnt, ↓s_brk, ↓s_pass, ↓s_setX, ↓s_for, ↓s_foS, ↓e_k, ↓e_tup, ↓e_lst, ↓e_call, ↓e_blt, ↓e_cmp, ↓e_bin, ↓e_neg, ↓e_and, ↓e_or, ↓e_not, ↓e_ite, ↓e_chain, ↓e_ix, ↓e_isi, ↓e_meth, ↓e_sl, ↓e_lam, ↓e_lc, ↓es_cons, ↓es_nil, ↓o_no, ↓b_add, ↓b_sub, ↓b_subB, ↓b_addB, ↓b_mul, ↓b_div, ↓b_mod, ↓b_pow, ↓b_addT, ↓b_mulT, ↓c_lt, ↓c_le, ↓c_gt, ↓c_ge, ↓c_isB, ↓c_isNotB, ↓c_isN, ↓c_isNotN, ↓t_abs, ↓t_int, ↓t_intB, ↓t_len, ↓t_min, ↓t_max, ↓t_tupT, ↓t_lstT, ↓i_v, ↓i_tup, ↓i_lst, ↓i_call, ↓i_ix, ↓i_sl, ↓lc_nil, ↓lc_cons, ↓w_lcB, ↓fo_nil, ↓fo_cons, ↓ts_nil, ↓ts_cons, ↓t_all, ↓t_any, ↓t_tup, ↓wI_int, ↓wR_ok, ↓v_0, ↓v_1, ↓v_2, ↓v_3, ↓v_4, ↓v_5, ↓v_6, ↓v_7, ↓v_8, ↓v_9, ↓v_10, ↓v_11, ↓v_12, ↓v_13, ↓v_14, ↓v_15, ↓v_16, ↓v_17, ↓v_18, ↓v_19, ↓v_20, ↓v_21, ↓v_22, ↓v_23, ↓v_24, ↓v_25, ↓v_26, ↓v_27, ↓v_28, ↓v_29, ↓v_30, ↓v_31, ↓as_0, ↓as_1, ↓as_2, ↓as_3, ↓as_4, ↓as_5, ↓as_6, ↓as_7, ↓as_8, ↓as_9, ↓as_10, ↓as_11, ↓as_12, ↓as_13, ↓as_14, ↓as_15, ↓as_16, ↓as_17, ↓as_18, ↓as_19, ↓as_20, ↓as_21, ↓as_22, ↓as_23, ↓as_24, ↓as_25, ↓as_26, ↓as_27, ↓as_28, ↓as_29, ↓as_30, ↓as_31, ↓as_t, ↓as_n, ↓as_c, ↓x1_0, ↓x2_0, ↓x2_1, ↓x3_0, ↓x3_1, ↓x3_2, ↓x4_0, ↓x4_1, ↓x4_2, ↓x4_3, ↓x5_0, ↓x5_1, ↓x5_2, ↓x5_3, ↓x5_4, ↓gc_id, ↓gc_bl, ↓gc_bl2, ↓gc_bl3, ↓gc_i, ↓gc_i2, ↓gc_n, ↓gc_n2, ↓gc_ex, ↓gc_ex0, ↓gc_ex2, ↓ce_ii, ↓ce_bb, ↓ce_2, ↓ce_3, ↓cn_ii, ↓cn_bb, ↓cn_2, ↓cn_3, ↓pk_bl, ↓pk_int, ↓pk_tn, ↓pk_tc, ↓pk_non, ↓nb_bl, ↓nb_int, ↓yt_non, ↓yt_bl, ↓yt_int, ↓yt_str, ↓yt_tup, ↓wp_tup, List.length_cons, List.length_nil, lim, Nat.reduceAdd, Nat.reduceLeDiff, true_and, and_true, is_ii, is_ib, is_bi, is_bb, is_tt, is_lt, is_it, is_nt, is_st, is_ni, is_si, is_ti, is_li, Bool.not_true, Bool.not_false, Bool.false_eq_true, if_true, if_false, abs_eq, Int.cast_ofNat_Int, BEq.rfl, beq_iff_eq, Int.reduceBEq, Int.reduceLT, Int.reduceLE, Int.reduceNeg, Int.reduceEq, List.all_cons, List.all_nil, id, Bool.and_true, Bool.true_and, Bool.and_self, same_nil', oc_some, oc_none, bls, wBs_some, wipe, Option.map_some, List.set_cons_zero, List.set_cons_succ, decide_true, decide_false, ↓reduceIte, decide_eq_true_eq, Bool.not_eq_true', ↓p_0, ↓p_1, ↓p_2, ↓p_len, ↓p_eq, ↓p_ne, ↓p_ty, ↓p_items, ↓e_rv, ↓rv_2, mulOk_sm, ↓w_of _ _ (compared_e _ _ _ _), g]
        exact hI _ _ ⟨rfl, rfl⟩
      · rw [show minP (hiP a b) (hiP x y) = hiP x y from if_neg g] at hI
        simp (decide := true) only [↓ss_cons, ↓ss_nil, ↓s_set, ↓s_ret, ↓s_retN, ↓s_expr, ↓s_ife, ↓s_raise, ↓s_cnt, ↓s_brk, ↓s_pass, ↓s_setX, ↓s_for, ↓s_foS, ↓e_k, ↓e_tup, ↓e_lst, ↓e_call, ↓e_blt, ↓e_cmp, ↓e_bin, ↓e_neg, ↓e_and, ↓e_or, ↓e_not, ↓e_ite, ↓e_chain, ↓e_ix, ↓e_isi, ↓e_meth, ↓e_sl, ↓e_lam, ↓e_lc, ↓es_cons, ↓es_nil, ↓o_no, ↓b_add, ↓b_sub, ↓b_subB, ↓b_addB, ↓b_mul, ↓b_div, ↓b_mod, ↓b_pow, ↓b_addT, ↓b_mulT, ↓c_lt, ↓c_le, ↓c_gt, ↓c_ge, ↓c_isB, ↓c_isNotB, ↓c_isN, ↓c_isNotN, ↓t_abs, ↓t_int, ↓t_intB, ↓t_len, ↓t_min, ↓t_max, ↓t_tupT, ↓t_lstT, ↓i_v, ↓i_tup, ↓i_lst, ↓i_call, ↓i_ix, ↓i_sl, ↓lc_nil, ↓lc_cons, ↓w_lcB, ↓fo_nil, ↓fo_cons, ↓ts_nil, ↓ts_cons, ↓t_all, ↓t_any, ↓t_tup, ↓wI_int, ↓wR_ok, ↓v_0, ↓v_1, ↓v_2, ↓v_3, ↓v_4, ↓v_5, ↓v_6, ↓v_7, ↓v_8, ↓v_9, ↓v_10, ↓v_11, ↓v_12, ↓v_13, ↓v_14, ↓v_15, ↓v_16, ↓v_17, ↓v_18, ↓v_19, ↓v_20, ↓v_21, ↓v_22, ↓v_23, ↓v_24, ↓v_25, ↓v_26, ↓v_27, ↓v_28, ↓v_29, ↓v_30, ↓v_31, ↓as_0, ↓as_1, ↓as_2, ↓as_3, ↓as_4, ↓as_5, ↓as_6, ↓as_7, ↓as_8, ↓as_9, ↓as_10, ↓as_11, ↓as_12, ↓as_13, ↓as_14, ↓as_15, ↓as_16, ↓as_17, ↓as_18, ↓as_19, ↓as_20, ↓as_21, ↓as_22, ↓as_23, ↓as_24, ↓as_25, ↓as_26, ↓as_27, ↓as_28, ↓as_29, ↓as_30, ↓as_31, ↓as_t, ↓as_n, ↓as_c, ↓x1_0, ↓x2_0, ↓x2_1, ↓x3_0, ↓x3_1, ↓x3_2, ↓x4_0, ↓x4_1, ↓x4_2, ↓x4_3, ↓x5_0, ↓x5_1, ↓x5_2, ↓x5_3, ↓x5_4, ↓gc_id, ↓gc_bl, ↓gc_bl2, ↓gc_bl3, ↓gc_i, ↓gc_i2, ↓gc_n, ↓gc_n2, ↓gc_ex, ↓gc_ex0, ↓gc_ex2, ↓ce_ii, ↓ce_bb, ↓ce_2, ↓ce_3, ↓cn_ii, ↓cn_bb, ↓cn_2, ↓cn_3, ↓pk_bl, ↓pk_int, ↓pk_tn, ↓pk_tc, ↓pk_non, ↓nb_bl, ↓nb_int, ↓yt_non, ↓yt_bl, ↓yt_int, ↓yt_str, ↓yt_tup, ↓wp_tup, List.length_cons, List.length_nil, lim, Nat.reduceAdd, Nat.reduceLeDiff, true_and, and_true, is_ii, is_ib, is_bi, is_bb, is_tt, is_lt, is_it, is_nt, is_st, is_ni, is_si, is_ti, is_li, Bool.not_true, Bool.not_false, Bool.false_eq_true, if_true, if_false, abs_eq, Int.cast_ofNat_Int, BEq.rfl, beq_iff_eq, Int.reduceBEq, Int.reduceLT, Int.reduceLE, Int.reduceNeg, Int.reduceEq, List.all_cons, List.all_nil, id, Bool.and_true, Bool.true_and, Bool.and_self, same_nil', oc_some, oc_none, bls, wBs_some, wipe, Option.map_some, List.set_cons_zero, List.set_cons_succ, decide_true, decide_false, ↓reduceIte, decide_eq_true_eq, Bool.not_eq_true', ↓p_0, ↓p_1, ↓p_2, ↓p_len, ↓p_eq, ↓p_ne, ↓p_ty, ↓p_items, ↓e_rv, ↓rv_2, mulOk_sm, ↓w_of _ _ (compared_e _ _ _ _), g]
        exact hI _ _ ⟨rfl, rfl⟩
    rintro _ c' ⟨rfl, h0⟩
    rw [h0]; clear h0 c'
    unfold lineR at hQ
    have i1 : Pn.Ok (maxP (loP a b) (loP x y)) := inferInstance
    have i2 : Pn.Ok (minP (hiP a b) (hiP x y)) := inferInstance
    generalize maxP (loP a b) (loP x y) = low at *
    generalize minP (hiP a b) (hiP x y) = high at *
    by_cases g : 0 < cmpP low high
    · rw [if_pos g] at hQ
      simp (decide := true) only [↓ss_cons, ↓ss_nil, ↓s_set, ↓s_ret, ↓s_retN, ↓s_expr, ↓s_ife, ↓s_raise, ↓s_cnt, ↓s_brk, ↓s_pass, ↓s_setX, ↓s_for, ↓s_foS, ↓e_k, ↓e_tup, ↓e_lst, ↓e_call, ↓e_blt, ↓e_cmp, ↓e_bin, ↓e_neg, ↓e_and, ↓e_or, ↓e_not, ↓e_ite, ↓e_chain, ↓e_ix, ↓e_isi, ↓e_meth, ↓e_sl, ↓e_lam, ↓e_lc, ↓es_cons, ↓es_nil, ↓o_no, ↓b_add, ↓b_sub, ↓b_subB, ↓b_addB, ↓b_mul, ↓b_div, ↓b_mod, ↓b_pow, ↓b_addT, ↓b_mulT, ↓c_lt, ↓c_le, ↓c_gt, ↓c_ge, ↓c_isB, ↓c_isNotB, ↓c_isN, ↓c_isNotN, ↓t_abs, ↓t_int, ↓t_intB, ↓t_len, ↓t_min, ↓t_max, ↓t_tupT, ↓t_lstT, ↓i_v, ↓i_tup, ↓i_lst, ↓i_call, ↓i_ix, ↓i_sl, ↓lc_nil, ↓lc_cons, ↓w_lcB, ↓fo_nil, ↓fo_cons, ↓ts_nil, ↓ts_cons, ↓t_all, ↓t_any, ↓t_tup, ↓wI_int, ↓wR_ok, ↓v_0, ↓v_1, ↓v_2, ↓v_3, ↓v_4, ↓v_5, ↓v_6, ↓v_7, ↓v_8, ↓v_9, ↓v_10, ↓v_11, ↓v_12, ↓v_13, ↓v_14, ↓v_15, ↓v_16, ↓v_17, ↓v_18, ↓v_19, ↓v_20, ↓v_21, ↓v_22, ↓v_23, ↓v_24, ↓v_25, ↓v_26, ↓v_27, ↓v_28, ↓v_29, ↓v_30, ↓v_31, ↓as_0, ↓as_1, ↓as_2, ↓as_3, ↓as_4, ↓as_5, ↓as_6, ↓as_7, ↓as_8, ↓as_9, ↓as_10, ↓as_11, ↓as_12, ↓as_13, ↓as_14, ↓as_15, ↓as_16, ↓as_17, ↓as_18, ↓as_19, ↓as_20, ↓as_21, ↓as_22, ↓as_23, ↓as_24, ↓as_25, ↓as_26, ↓as_27, ↓as_28, ↓as_29, ↓as_30, ↓as_31, ↓as_t, ↓as_n, ↓as_c, ↓x1_0, ↓x2_0, ↓x2_1, ↓x3_0, ↓x3_1, ↓x3_2, ↓x4_0, ↓x4_1, ↓x4_2, ↓x4_3, ↓x5_0, ↓x5_1, ↓x5_2, ↓x5_3, ↓x5_4, ↓gc_id, ↓gc_bl, ↓gc_bl2, ↓gc_bl3, ↓gc_i, ↓gc_i2, ↓gc_n, ↓gc_n2, ↓gc_ex, ↓gc_ex0, ↓gc_ex2, ↓ce_ii, ↓ce_bb, ↓ce_2, ↓ce_3, ↓cn_ii, ↓cn_bb, ↓cn_2, ↓cn_3, ↓pk_bl, ↓pk_int, ↓pk_tn, ↓pk_tc, ↓pk_non, ↓nb_bl, ↓nb_int, ↓yt_non, ↓yt_bl, ↓yt_int, ↓yt_str, ↓yt_tup, ↓wp_tup, List.length_cons, List.length_nil, lim, Nat.reduceAdd, Nat.reduceLeDiff, true_and, and_true, is_ii, is_ib, is_bi, is_bb, is_tt, is_lt, is_it, is_nt, is_st, is_ni, is_si, is_ti, is_li, Bool.not_true, Bool.not_false, Bool.false_eq_true, if_true, if_false, abs_eq, Int.cast_ofNat_Int, BEq.rfl, beq_iff_eq, Int.reduceBEq, Int.reduceLT, Int.reduceLE, Int.reduceNeg, Int.reduceEq, List.all_cons, List.all_nil, id, Bool.and_true, Bool.true_and, Bool.and_self, same_nil', oc_some, oc_none, bls, wBs_some, wipe, Option.map_some, List.set_cons_zero, List.set_cons_succ, decide_true, decide_false, ↓reduceIte, decide_eq_true_eq, Bool.not_eq_true', ↓p_0, ↓p_1, ↓p_2, ↓p_len, ↓p_eq, ↓p_ne, ↓p_ty, ↓p_items, ↓e_rv, ↓rv_2, mulOk_sm, ↓w_of _ _ (compared_e _ _ _ _), g]
      exact hQ
    · rw [if_neg g] at hQ
      by_cases g2 : low = high
      · rw [if_pos g2] at hQ
        subst g2
        simp (decide := true) only [↓ss_cons, ↓ss_nil, ↓s_set, ↓s_ret, ↓s_retN, ↓s_expr, ↓s_ife, ↓s_raise, ↓s_cnt, ↓s_brk, ↓s_pass, ↓s_setX, ↓s_for, ↓s_foS, ↓e_k, ↓e_tup, ↓e_lst, ↓e_call, ↓e_blt, ↓e_cmp, ↓e_bin, ↓e_neg, ↓e_and, ↓e_or, ↓e_not, ↓e_ite, ↓e_chain, ↓e_ix, ↓e_isi, ↓e_meth, ↓e_sl, ↓e_lam, ↓e_lc, ↓es_cons, ↓es_nil, ↓o_no, ↓b_add, ↓b_sub, ↓b_subB, ↓b_addB, ↓b_mul, ↓b_div, ↓b_mod, ↓b_pow, ↓b_addT, ↓b_mulT, ↓c_lt, ↓c_le, ↓c_gt, ↓c_ge, ↓c_isB, ↓c_isNotB, ↓c_isN, ↓c_isNotN, ↓t_abs, ↓t_int, ↓t_intB, ↓t_len, ↓t_min, ↓t_max, ↓t_tupT, ↓t_lstT, ↓i_v, ↓i_tup, ↓i_lst, ↓i_call, ↓i_ix, ↓i_sl, ↓lc_nil, ↓lc_cons, ↓w_lcB, ↓fo_nil, ↓fo_cons, ↓ts_nil, ↓ts_cons, ↓t_all, ↓t_any, ↓t_tup, ↓wI_int, ↓wR_ok, ↓v_0, ↓v_1, ↓v_2, ↓v_3, ↓v_4, ↓v_5, ↓v_6, ↓v_7, ↓v_8, ↓v_9, ↓v_10, ↓v_11, ↓v_12, ↓v_13, ↓v_14, ↓v_15, ↓v_16, ↓v_17, ↓v_18, ↓v_19, ↓v_20, ↓v_21, ↓v_22, ↓v_23, ↓v_24, ↓v_25, ↓v_26, ↓v_27, ↓v_28, ↓v_29, ↓v_30, ↓v_31, ↓as_0, ↓as_1, ↓as_2, ↓as_3, ↓as_4, ↓as_5, ↓as_6, ↓as_7, ↓as_8, ↓as_9, ↓as_10, ↓as_11, ↓as_12, ↓as_13, ↓as_14, ↓as_15, ↓as_16, ↓as_17, ↓as_18, ↓as_19, ↓as_20, ↓as_21, ↓as_22, ↓as_23, ↓as_24, ↓as_25, ↓as_26, ↓as_27, ↓as_28, ↓as_29, ↓as_30, ↓as_31, ↓as_t, ↓as_n, ↓as_c, ↓x1_0, ↓x2_0, ↓x2_1, ↓x3_0, ↓x3_1, ↓x3_2, ↓x4_0, ↓x4_1, ↓x4_2, ↓x4_3, ↓x5_0, ↓x5_1, ↓x5_2, ↓x5_3, ↓x5_4, ↓gc_id, ↓gc_bl, ↓gc_bl2, ↓gc_bl3, ↓gc_i, ↓gc_i2, ↓gc_n, ↓gc_n2, ↓gc_ex, ↓gc_ex0, ↓gc_ex2, ↓ce_ii, ↓ce_bb, ↓ce_2, ↓ce_3, ↓cn_ii, ↓cn_bb, ↓cn_2, ↓cn_3, ↓pk_bl, ↓pk_int, ↓pk_tn, ↓pk_tc, ↓pk_non, ↓nb_bl, ↓nb_int, ↓yt_non, ↓yt_bl, ↓yt_int, ↓yt_str, ↓yt_tup, ↓wp_tup, List.length_cons, List.length_nil, lim, Nat.reduceAdd, Nat.reduceLeDiff, true_and, and_true, is_ii, is_ib, is_bi, is_bb, is_tt, is_lt, is_it, is_nt, is_st, is_ni, is_si, is_ti, is_li, Bool.not_true, Bool.not_false, Bool.false_eq_true, if_true, if_false, abs_eq, Int.cast_ofNat_Int, BEq.rfl, beq_iff_eq, Int.reduceBEq, Int.reduceLT, Int.reduceLE, Int.reduceNeg, Int.reduceEq, List.all_cons, List.all_nil, id, Bool.and_true, Bool.true_and, Bool.and_self, same_nil', oc_some, oc_none, bls, wBs_some, wipe, Option.map_some, List.set_cons_zero, List.set_cons_succ, decide_true, decide_false, ↓reduceIte, decide_eq_true_eq, Bool.not_eq_true', ↓p_0, ↓p_1, ↓p_2, ↓p_len, ↓p_eq, ↓p_ne, ↓p_ty, ↓p_items, ↓e_rv, ↓rv_2, mulOk_sm, ↓w_of _ _ (compared_e _ _ _ _), g]
        exact hQ
      · rw [if_neg g2] at hQ
        simp (decide := true) only [↓ss_cons, ↓ss_nil, ↓s_set, ↓s_ret, ↓s_retN, ↓s_expr, ↓s_ife, ↓s_raise, ↓s_cnt, ↓s_brk, ↓s_pass, ↓s_setX, ↓s_for, ↓s_foS, ↓e_k, ↓e_tup, ↓e_lst, ↓e_call, ↓e_blt, ↓e_cmp, ↓e_bin, ↓e_neg, ↓e_and, ↓e_or, ↓e_not, ↓e_ite, ↓e_chain, ↓e_ix, ↓e_isi, ↓e_meth, ↓e_sl, ↓e_lam, ↓e_lc, ↓es_cons, ↓es_nil, ↓o_no, ↓b_add, ↓b_sub, ↓b_subB, ↓b_addB, ↓b_mul, ↓b_div, ↓b_mod, ↓b_pow, ↓b_addT, ↓b_mulT, ↓c_lt, ↓c_le, ↓c_gt, ↓c_ge, ↓c_isB, ↓c_isNotB, ↓c_isN, ↓c_isNotN, ↓t_abs, ↓t_int, ↓t_intB, ↓t_len, ↓t_min, ↓t_max, ↓t_tupT, ↓t_lstT, ↓i_v, ↓i_tup, ↓i_lst, ↓i_call, ↓i_ix, ↓i_sl, ↓lc_nil, ↓lc_cons, ↓w_lcB, ↓fo_nil, ↓fo_cons, ↓ts_nil, ↓ts_cons, ↓t_all, ↓t_any, ↓t_tup, ↓wI_int, ↓wR_ok, ↓v_0, ↓v_1, ↓v_2, ↓v_3, ↓v_4, ↓v_5, ↓v_6, ↓v_7, ↓v_8, ↓v_9, ↓v_10, ↓v_11, ↓v_12, ↓v_13, ↓v_14, ↓v_15, ↓v_16, ↓v_17, ↓v_18, ↓v_19, ↓v_20, ↓v_21, ↓v_22, ↓v_23, ↓v_24, ↓v_25, ↓v_26, ↓v_27, ↓v_28, ↓v_29, ↓v_30, ↓v_31, ↓as_0, ↓as_1, ↓as_2, ↓as_3, ↓as_4, ↓as_5, ↓as_6, ↓as_7, ↓as_8, ↓as_9, ↓as_10, ↓as_11, ↓as_12, ↓as_13, ↓as_14, ↓as_15, ↓as_16, ↓as_17, ↓as_18, ↓as_19, ↓as_20, ↓as_21, ↓as_22, ↓as_23, ↓as_24, ↓as_25, ↓as_26, ↓as_27, ↓as_28, ↓as_29, ↓as_30, ↓as_31, ↓as_t, ↓as_n, ↓as_c, ↓x1_0, ↓x2_0, ↓x2_1, ↓x3_0, ↓x3_1, ↓x3_2, ↓x4_0, ↓x4_1, ↓x4_2, ↓x4_3, ↓x5_0, ↓x5_1, ↓x5_2, ↓x5_3, ↓x5_4, ↓gc_id, ↓gc_bl, ↓gc_bl2, ↓gc_bl3, ↓gc_i, ↓gc_i2, ↓gc_n, ↓gc_n2, ↓gc_ex, ↓gc_ex0, ↓gc_ex2, ↓ce_ii, ↓ce_bb, ↓ce_2, ↓ce_3, ↓cn_ii, ↓cn_bb, ↓cn_2, ↓cn_3, ↓pk_bl, ↓pk_int, ↓pk_tn, ↓pk_tc, ↓pk_non, ↓nb_bl, ↓nb_int, ↓yt_non, ↓yt_bl, ↓yt_int, ↓yt_str, ↓yt_tup, ↓wp_tup, List.length_cons, List.length_nil, lim, Nat.reduceAdd, Nat.reduceLeDiff, true_and, and_true, is_ii, is_ib, is_bi, is_bb, is_tt, is_lt, is_it, is_nt, is_st, is_ni, is_si, is_ti, is_li, Bool.not_true, Bool.not_false, Bool.false_eq_true, if_true, if_false, abs_eq, Int.cast_ofNat_Int, BEq.rfl, beq_iff_eq, Int.reduceBEq, Int.reduceLT, Int.reduceLE, Int.reduceNeg, Int.reduceEq, List.all_cons, List.all_nil, id, Bool.and_true, Bool.true_and, Bool.and_self, same_nil', oc_some, oc_none, bls, wBs_some, wipe, Option.map_some, List.set_cons_zero, List.set_cons_succ, decide_true, decide_false, ↓reduceIte, decide_eq_true_eq, Bool.not_eq_true', ↓p_0, ↓p_1, ↓p_2, ↓p_len, ↓p_eq, ↓p_ne, ↓p_ty, ↓p_items, ↓e_rv, ↓rv_2, mulOk_sm, ↓w_of _ _ (compared_e _ _ _ _), g, g2]
        exact hQ
  · rw [if_neg h] at hQ
    have hp : (sideP a b x == 0) = false ∨ ((sideP a b x == 0) = true ∧ (sideP a b y == 0) = false) := by
      by_cases z : sideP a b x = 0
      · exact .inr ⟨by simpa using z, by simpa using fun z2 => h ⟨z, z2⟩⟩
      · exact .inl (by simpa using z)
    have hskip : ∀ (A B : List IS) (ρ : Lo), ρ = [some (segD a b), some (segD x y), some a.d, some b.d, some x.d, some y.d, some (.tup [.int (sideP a b x), .int (sideP a b y), .int (sideP x y a), .int (sideP x y b)]), none, none] → ∀ (Γ : Ctx) (K : SK), wS (dS Γ (.ife (.and (.cmp .Eq (.ix (.v 6) (.k (.int (0)))) (.k (.int (0)))) (.cmp .Eq (.ix (.v 6) (.k (.int (1)))) (.k (.int (0))))) A B) ρ c) K = wS (dSs Γ B ρ c) K := fun A B ρ hρ Γ K => by
      subst hρ
      rw [s_ife]
      rcases hp with h1 | ⟨h1, h2⟩
      · simp (decide := true) only [↓e_and, ↓e_cmp, ↓e_ix, ↓v_6, ↓e_k, ↓x4_0, ↓x4_1, ↓ce_ii, ↓pk_bl, h1, Bool.false_eq_true, if_false]
      · simp (decide := true) only [↓e_and, ↓e_cmp, ↓e_ix, ↓v_6, ↓e_k, ↓x4_0, ↓x4_1, ↓ce_ii, ↓pk_bl, h1, h2, Bool.false_eq_true, if_false, if_true]
    rw [ss_cons, hskip _ _ _ rfl, ss_nil]
    show wS (dSs _ _ _ c) _
    by_cases g1 : 0 < sideP a b x * sideP a b y
    · rw [if_pos (.inl g1)] at hQ
      simp (decide := true) only [↓ss_cons, ↓ss_nil, ↓s_set, ↓s_ret, ↓s_retN, ↓s_expr, ↓s_ife, ↓s_raise, ↓s_cnt, ↓s_brk, ↓s_pass, ↓s_setX, ↓s_for, ↓s_foS, ↓e_k, ↓e_tup, ↓e_lst, ↓e_call, ↓e_blt, ↓e_cmp, ↓e_bin, ↓e_neg, ↓e_and, ↓e_or, ↓e_not, ↓e_ite, ↓e_chain, ↓e_ix, ↓e_isi, ↓e_meth, ↓e_sl, ↓e_lam, ↓e_lc, ↓es_cons, ↓es_nil, ↓o_no, ↓b_add, ↓b_sub, ↓b_subB, ↓b_addB, ↓b_mul, ↓b_div, ↓b_mod, ↓b_pow, ↓b_addT, ↓b_mulT, ↓c_lt, ↓c_le, ↓c_gt, ↓c_ge, ↓c_isB, ↓c_isNotB, ↓c_isN, ↓c_isNotN, ↓t_abs, ↓t_int, ↓t_intB, ↓t_len, ↓t_min, ↓t_max, ↓t_tupT, ↓t_lstT, ↓i_v, ↓i_tup, ↓i_lst, ↓i_call, ↓i_ix, ↓i_sl, ↓lc_nil, ↓lc_cons, ↓w_lcB, ↓fo_nil, ↓fo_cons, ↓ts_nil, ↓ts_cons, ↓t_all, ↓t_any, ↓t_tup, ↓wI_int, ↓wR_ok, ↓v_0, ↓v_1, ↓v_2, ↓v_3, ↓v_4, ↓v_5, ↓v_6, ↓v_7, ↓v_8, ↓v_9, ↓v_10, ↓v_11, ↓v_12, ↓v_13, ↓v_14, ↓v_15, ↓v_16, ↓v_17, ↓v_18, ↓v_19, ↓v_20, ↓v_21, ↓v_22, ↓v_23, ↓v_24, ↓v_25, ↓v_26, ↓v_27, ↓v_28, ↓v_29, ↓v_30, ↓v_31, ↓as_0, ↓as_1, ↓as_2, ↓as_3, ↓as_4, ↓as_5, ↓as_6, ↓as_7, ↓as_8, ↓as_9, ↓as_10, ↓as_11, ↓as_12, ↓as_13, ↓as_14, ↓as_15, ↓as_16, ↓as_17, ↓as_18, ↓as_19, ↓as_20, ↓as_21, ↓as_22, ↓as_23, ↓as_24, ↓as_25, ↓as_26, ↓as_27, ↓as_28, ↓as_29, ↓as_30, ↓as_31, ↓as_t, ↓as_n, ↓as_c, ↓x1_0, ↓x2_0, ↓x2_1, ↓x3_0, ↓x3_1, ↓x3_2, ↓x4_0, ↓x4_1, ↓x4_2, ↓x4_3, ↓x5_0, ↓x5_1, ↓x5_2, ↓x5_3, ↓x5_4, ↓gc_id, ↓gc_bl, ↓gc_bl2, ↓gc_bl3, ↓gc_i, ↓gc_i2, ↓gc_n, ↓gc_n2, ↓gc_ex, ↓gc_ex0, ↓gc_ex2, ↓ce_ii, ↓ce_bb, ↓ce_2, ↓ce_3, ↓cn_ii, ↓cn_bb, ↓cn_2, ↓cn_3, ↓pk_bl, ↓pk_int, ↓pk_tn, ↓pk_tc, ↓pk_non, ↓nb_bl, ↓nb_int, ↓yt_non, ↓yt_bl, ↓yt_int, ↓yt_str, ↓yt_tup, ↓wp_tup, List.length_cons, List.length_nil, lim, Nat.reduceAdd, Nat.reduceLeDiff, true_and, and_true, is_ii, is_ib, is_bi, is_bb, is_tt, is_lt, is_it, is_nt, is_st, is_ni, is_si, is_ti, is_li, Bool.not_true, Bool.not_false, Bool.false_eq_true, if_true, if_false, abs_eq, Int.cast_ofNat_Int, BEq.rfl, beq_iff_eq, Int.reduceBEq, Int.reduceLT, Int.reduceLE, Int.reduceNeg, Int.reduceEq, List.all_cons, List.all_nil, id, Bool.and_true, Bool.true_and, Bool.and_self, same_nil', oc_some, oc_none, bls, wBs_some, wipe, Option.map_some, List.set_cons_zero, List.set_cons_succ, decide_true, decide_false, ↓reduceIte, decide_eq_true_eq, Bool.not_eq_true', ↓p_0, ↓p_1, ↓p_2, ↓p_len, ↓p_eq, ↓p_ne, ↓p_ty, ↓p_items, ↓e_rv, ↓rv_2, mulOk_sm, g1]
      exact hQ
    · by_cases g2 : 0 < sideP x y a * sideP x y b
      · rw [if_pos (.inr g2)] at hQ
        simp (decide := true) only [↓ss_cons, ↓ss_nil, ↓s_set, ↓s_ret, ↓s_retN, ↓s_expr, ↓s_ife, ↓s_raise, ↓s_cnt, ↓s_brk, ↓s_pass, ↓s_setX, ↓s_for, ↓s_foS, ↓e_k, ↓e_tup, ↓e_lst, ↓e_call, ↓e_blt, ↓e_cmp, ↓e_bin, ↓e_neg, ↓e_and, ↓e_or, ↓e_not, ↓e_ite, ↓e_chain, ↓e_ix, ↓e_isi, ↓e_meth, ↓e_sl, ↓e_lam, ↓e_lc, ↓es_cons, ↓es_nil, ↓o_no, ↓b_add, ↓b_sub, ↓b_subB, ↓b_addB, ↓b_mul, ↓b_div, ↓b_mod, ↓b_pow, ↓b_addT, ↓b_mulT, ↓c_lt, ↓c_le, ↓c_gt, ↓c_ge, ↓c_isB, ↓c_isNotB, ↓c_isN, ↓c_isNotN, ↓t_abs, ↓t_int, ↓t_intB, ↓t_len, ↓t_min, ↓t_max, ↓t_tupT, ↓t_lstT, ↓i_v, ↓i_tup, ↓i_lst, ↓i_call, ↓i_ix, ↓i_sl, ↓lc_nil, ↓lc_cons, ↓w_lcB, ↓fo_nil, ↓fo_cons, ↓ts_nil, ↓ts_cons, ↓t_all, ↓t_any, ↓t_tup, ↓wI_int, ↓wR_ok, ↓v_0, ↓v_1, ↓v_2, ↓v_3, ↓v_4, ↓v_5, ↓v_6, ↓v_7, ↓v_8, ↓v_9, ↓v_10, ↓v_11, ↓v_12, ↓v_13, ↓v_14, ↓v_15, ↓v_16, ↓v_17, ↓v_18, ↓v_19, ↓v_20, ↓v_21, ↓v_22, ↓v_23, ↓v_24, ↓v_25, ↓v_26, ↓v_27, ↓v_28, ↓v_29, ↓v_30, ↓v_31, ↓as_0, ↓as_1, ↓as_2, ↓as_3, ↓as_4, ↓as_5, ↓as_6, ↓as_7, ↓as_8, ↓as_9, ↓as_10, ↓as_11, ↓as_12, ↓as_13, ↓as_14, ↓as_15, ↓as_16, ↓as_17, ↓as_18, ↓as_19, ↓as_20, ↓as_21, ↓as_22, ↓as_23, ↓as_24, ↓as_25, ↓as_26, ↓as_27, ↓as_28, ↓as_29, ↓as_30, ↓as_31, ↓as_t, ↓as_n, ↓as_c, ↓x1_0, ↓x2_0, ↓x2_1, ↓x3_0, ↓x3_1, ↓x3_2, ↓x4_0, ↓x4_1, ↓x4_2, ↓x4_3, ↓x5_0, ↓x5_1, ↓x5_2, ↓x5_3, ↓x5_4, ↓gc_id, ↓gc_bl, ↓gc_bl2, ↓gc_bl3, ↓gc_i, ↓gc_i2, ↓gc_n, ↓gc_n2, ↓gc_ex, ↓gc_ex0, ↓gc_ex2, ↓ce_ii, ↓ce_bb, ↓ce_2, ↓ce_3, ↓cn_ii, ↓cn_bb, ↓cn_2, ↓cn_3, ↓pk_bl, ↓pk_int, ↓pk_tn, ↓pk_tc, ↓pk_non, ↓nb_bl, ↓nb_int, ↓yt_non, ↓yt_bl, ↓yt_int, ↓yt_str, ↓yt_tup, ↓wp_tup, List.length_cons, List.length_nil, lim, Nat.reduceAdd, Nat.reduceLeDiff, true_and, and_true, is_ii, is_ib, is_bi, is_bb, is_tt, is_lt, is_it, is_nt, is_st, is_ni, is_si, is_ti, is_li, Bool.not_true, Bool.not_false, Bool.false_eq_true, if_true, if_false, abs_eq, Int.cast_ofNat_Int, BEq.rfl, beq_iff_eq, Int.reduceBEq, Int.reduceLT, Int.reduceLE, Int.reduceNeg, Int.reduceEq, List.all_cons, List.all_nil, id, Bool.and_true, Bool.true_and, Bool.and_self, same_nil', oc_some, oc_none, bls, wBs_some, wipe, Option.map_some, List.set_cons_zero, List.set_cons_succ, decide_true, decide_false, ↓reduceIte, decide_eq_true_eq, Bool.not_eq_true', ↓p_0, ↓p_1, ↓p_2, ↓p_len, ↓p_eq, ↓p_ne, ↓p_ty, ↓p_items, ↓e_rv, ↓rv_2, mulOk_sm, g1, g2]
        exact hQ
      · rw [if_neg (by rintro (z | z) <;> contradiction)] at hQ
        have hw := crossW_ne ha.pt hb.pt hx.pt hy.pt h g1
        simp (decide := true) only [↓ss_cons, ↓ss_nil, ↓s_set, ↓s_ret, ↓s_retN, ↓s_expr, ↓s_ife, ↓s_raise, ↓s_cnt, ↓s_brk, ↓s_pass, ↓s_setX, ↓s_for, ↓s_foS, ↓e_k, ↓e_tup, ↓e_lst, ↓e_call, ↓e_blt, ↓e_cmp, ↓e_bin, ↓e_neg, ↓e_and, ↓e_or, ↓e_not, ↓e_ite, ↓e_chain, ↓e_ix, ↓e_isi, ↓e_meth, ↓e_sl, ↓e_lam, ↓e_lc, ↓es_cons, ↓es_nil, ↓o_no, ↓b_add, ↓b_sub, ↓b_subB, ↓b_addB, ↓b_mul, ↓b_div, ↓b_mod, ↓b_pow, ↓b_addT, ↓b_mulT, ↓c_lt, ↓c_le, ↓c_gt, ↓c_ge, ↓c_isB, ↓c_isNotB, ↓c_isN, ↓c_isNotN, ↓t_abs, ↓t_int, ↓t_intB, ↓t_len, ↓t_min, ↓t_max, ↓t_tupT, ↓t_lstT, ↓i_v, ↓i_tup, ↓i_lst, ↓i_call, ↓i_ix, ↓i_sl, ↓lc_nil, ↓lc_cons, ↓w_lcB, ↓fo_nil, ↓fo_cons, ↓ts_nil, ↓ts_cons, ↓t_all, ↓t_any, ↓t_tup, ↓wI_int, ↓wR_ok, ↓v_0, ↓v_1, ↓v_2, ↓v_3, ↓v_4, ↓v_5, ↓v_6, ↓v_7, ↓v_8, ↓v_9, ↓v_10, ↓v_11, ↓v_12, ↓v_13, ↓v_14, ↓v_15, ↓v_16, ↓v_17, ↓v_18, ↓v_19, ↓v_20, ↓v_21, ↓v_22, ↓v_23, ↓v_24, ↓v_25, ↓v_26, ↓v_27, ↓v_28, ↓v_29, ↓v_30, ↓v_31, ↓as_0, ↓as_1, ↓as_2, ↓as_3, ↓as_4, ↓as_5, ↓as_6, ↓as_7, ↓as_8, ↓as_9, ↓as_10, ↓as_11, ↓as_12, ↓as_13, ↓as_14, ↓as_15, ↓as_16, ↓as_17, ↓as_18, ↓as_19, ↓as_20, ↓as_21, ↓as_22, ↓as_23, ↓as_24, ↓as_25, ↓as_26, ↓as_27, ↓as_28, ↓as_29, ↓as_30, ↓as_31, ↓as_t, ↓as_n, ↓as_c, ↓x1_0, ↓x2_0, ↓x2_1, ↓x3_0, ↓x3_1, ↓x3_2, ↓x4_0, ↓x4_1, ↓x4_2, ↓x4_3, ↓x5_0, ↓x5_1, ↓x5_2, ↓x5_3, ↓x5_4, ↓gc_id, ↓gc_bl, ↓gc_bl2, ↓gc_bl3, ↓gc_i, ↓gc_i2, ↓gc_n, ↓gc_n2, ↓gc_ex, ↓gc_ex0, ↓gc_ex2, ↓ce_ii, ↓ce_bb, ↓ce_2, ↓ce_3, ↓cn_ii, ↓cn_bb, ↓cn_2, ↓cn_3, ↓pk_bl, ↓pk_int, ↓pk_tn, ↓pk_tc, ↓pk_non, ↓nb_bl, ↓nb_int, ↓yt_non, ↓yt_bl, ↓yt_int, ↓yt_str, ↓yt_tup, ↓wp_tup, List.length_cons, List.length_nil, lim, Nat.reduceAdd, Nat.reduceLeDiff, true_and, and_true, is_ii, is_ib, is_bi, is_bb, is_tt, is_lt, is_it, is_nt, is_st, is_ni, is_si, is_ti, is_li, Bool.not_true, Bool.not_false, Bool.false_eq_true, if_true, if_false, abs_eq, Int.cast_ofNat_Int, BEq.rfl, beq_iff_eq, Int.reduceBEq, Int.reduceLT, Int.reduceLE, Int.reduceNeg, Int.reduceEq, List.all_cons, List.all_nil, id, Bool.and_true, Bool.true_and, Bool.and_self, same_nil', oc_some, oc_none, bls, wBs_some, wipe, Option.map_some, List.set_cons_zero, List.set_cons_succ, decide_true, decide_false, ↓reduceIte, decide_eq_true_eq, Bool.not_eq_true', ↓p_0, ↓p_1, ↓p_2, ↓p_len, ↓p_eq, ↓p_ne, ↓p_ty, ↓p_items, ↓e_rv, ↓rv_2, mulOk_sm, g1, g2, ↓w_of _ _ (line_e _ _ _ _), ↓w_of _ _ (made_of_e _ _ a b x y hw)]
        exact hQ
/-! ### segments -/
def segB (d : D) : Bool := match d with
  | .tup [p, q] => isPt p && isPt q && !(eqD p q)
  | _ => false
theorem issegment_e [hf : HasFn T "is_segment" F.is_segment] [HasFn T "is_point" F.is_point] [HasFn T "is_number" F.is_number] [HasFn T "common" F.common] (d : D) (hd : match d with | .tup xs => ∀ x ∈ xs, x.vals c | .ref n => (tyOf c (.ref n)).isSome = true | _ => True) :
    callD T (k + 3) "is_segment" [d] c = .ok (.bl (segB d)) c := by
  refine eq_of fun Q E hQ => call_body (fn := F.is_segment) hf.h rfl ?_
  unfold F.is_segment
  show wS (dSs _ _ [some d] c) _
  cases d with
  | tup xs =>
    by_cases hl : xs.length = 2
    · obtain ⟨p, q, rfl⟩ : ∃ p q, xs = [p, q] := by
        match xs, hl with
        | [p, q], _ => exact ⟨p, q, rfl⟩
      have h1 := ispoint_e (T := T) k c p (hd p (by simp))
      have h2 := ispoint_e (T := T) k c q (hd q (by simp))
      unfold segB at hQ
      dsimp only at hQ
      by_cases g1 : isPt p = true
      · by_cases g2 : isPt q = true
        · obtain ⟨p, rfl, hp⟩ := isPt_some g1
          obtain ⟨q, rfl, hq⟩ := isPt_some g2
          rw [g1] at h1
          rw [g2] at h2
          simp (decide := true) only [↓ss_cons, ↓ss_nil, ↓s_set, ↓s_ret, ↓s_retN, ↓s_expr, ↓s_ife, ↓s_raise, ↓s_cnt, ↓s_brk, ↓s_pass, ↓s_setX, ↓s_for, ↓s_foS, ↓e_k, ↓e_tup, ↓e_lst, ↓e_call, ↓e_blt, ↓e_cmp, ↓e_bin, ↓e_neg, ↓e_and, ↓e_or, ↓e_not, ↓e_ite, ↓e_chain, ↓e_ix, ↓e_isi, ↓e_meth, ↓e_sl, ↓e_lam, ↓e_lc, ↓es_cons, ↓es_nil, ↓o_no, ↓b_add, ↓b_sub, ↓b_subB, ↓b_addB, ↓b_mul, ↓b_div, ↓b_mod, ↓b_pow, ↓b_addT, ↓b_mulT, ↓c_lt, ↓c_le, ↓c_gt, ↓c_ge, ↓c_isB, ↓c_isNotB, ↓c_isN, ↓c_isNotN, ↓t_abs, ↓t_int, ↓t_intB, ↓t_len, ↓t_min, ↓t_max, ↓t_tupT, ↓t_lstT, ↓i_v, ↓i_tup, ↓i_lst, ↓i_call, ↓i_ix, ↓i_sl, ↓lc_nil, ↓lc_cons, ↓w_lcB, ↓fo_nil, ↓fo_cons, ↓ts_nil, ↓ts_cons, ↓t_all, ↓t_any, ↓t_tup, ↓wI_int, ↓wR_ok, ↓v_0, ↓v_1, ↓v_2, ↓v_3, ↓v_4, ↓v_5, ↓v_6, ↓v_7, ↓v_8, ↓v_9, ↓v_10, ↓v_11, ↓v_12, ↓v_13, ↓v_14, ↓v_15, ↓v_16, ↓v_17, ↓v_18, ↓v_19, ↓v_20, ↓v_21, ↓v_22, ↓v_23, ↓v_24, ↓v_25, ↓v_26, ↓v_27, ↓v_28, ↓v_29, ↓v_30, ↓v_31, ↓as_0, ↓as_1, ↓as_2, ↓as_3, ↓as_4, ↓as_5, ↓as_6, ↓as_7, ↓as_8, ↓as_9, ↓as_10, ↓as_11, ↓as_12, ↓as_13, ↓as_14, ↓as_15, ↓as_16, ↓as_17, ↓as_18, ↓as_19, ↓as_20, ↓as_21, ↓as_22, ↓as_23, ↓as_24, ↓as_25, ↓as_26, ↓as_27, ↓as_28, ↓as_29, ↓as_30, ↓as_31, ↓as_t, ↓as_n, ↓as_c, ↓x1_0, ↓x2_0, ↓x2_1, ↓x3_0, ↓x3_1, ↓x3_2, ↓x4_0, ↓x4_1, ↓x4_2, ↓x4_3, ↓x5_0, ↓x5_1, ↓x5_2, ↓x5_3, ↓x5_4, ↓gc_id, ↓gc_bl, ↓gc_bl2, ↓gc_bl3, ↓gc_i, ↓gc_i2, ↓gc_n, ↓gc_n2, ↓gc_ex, ↓gc_ex0, ↓gc_ex2, ↓ce_ii, ↓ce_bb, ↓ce_2, ↓ce_3, ↓cn_ii, ↓cn_bb, ↓cn_2, ↓cn_3, ↓pk_bl, ↓pk_int, ↓pk_tn, ↓pk_tc, ↓pk_non, ↓nb_bl, ↓nb_int, ↓yt_non, ↓yt_bl, ↓yt_int, ↓yt_str, ↓yt_tup, ↓wp_tup, List.length_cons, List.length_nil, lim, Nat.reduceAdd, Nat.reduceLeDiff, true_and, and_true, is_ii, is_ib, is_bi, is_bb, is_tt, is_lt, is_it, is_nt, is_st, is_ni, is_si, is_ti, is_li, Bool.not_true, Bool.not_false, Bool.false_eq_true, if_true, if_false, abs_eq, Int.cast_ofNat_Int, BEq.rfl, beq_iff_eq, Int.reduceBEq, Int.reduceLT, Int.reduceLE, Int.reduceNeg, Int.reduceEq, List.all_cons, List.all_nil, id, Bool.and_true, Bool.true_and, Bool.and_self, same_nil', oc_some, oc_none, bls, wBs_some, wipe, Option.map_some, List.set_cons_zero, List.set_cons_succ, decide_true, decide_false, ↓reduceIte, decide_eq_true_eq, Bool.not_eq_true', ↓p_0, ↓p_1, ↓p_2, ↓p_len, ↓p_eq, ↓p_ne, ↓p_ty, ↓p_items, ↓e_rv, ↓rv_2, mulOk_sm, ↓w_of _ _ h1, ↓w_of _ _ h2]
          have e : eqD p.d q.d = decide (p = q) := by
            rw [Bool.eq_iff_iff, eqD_it _ _ (Pn.it_d p) (Pn.it_d q), Pn.d_inj]; simp
          rw [g1, g2, e] at hQ
          simpa using hQ
        · rw [g1] at h1 hQ
          rw [show isPt q = false by simpa using g2] at h2 hQ
          simp (decide := true) only [↓ss_cons, ↓ss_nil, ↓s_set, ↓s_ret, ↓s_retN, ↓s_expr, ↓s_ife, ↓s_raise, ↓s_cnt, ↓s_brk, ↓s_pass, ↓s_setX, ↓s_for, ↓s_foS, ↓e_k, ↓e_tup, ↓e_lst, ↓e_call, ↓e_blt, ↓e_cmp, ↓e_bin, ↓e_neg, ↓e_and, ↓e_or, ↓e_not, ↓e_ite, ↓e_chain, ↓e_ix, ↓e_isi, ↓e_meth, ↓e_sl, ↓e_lam, ↓e_lc, ↓es_cons, ↓es_nil, ↓o_no, ↓b_add, ↓b_sub, ↓b_subB, ↓b_addB, ↓b_mul, ↓b_div, ↓b_mod, ↓b_pow, ↓b_addT, ↓b_mulT, ↓c_lt, ↓c_le, ↓c_gt, ↓c_ge, ↓c_isB, ↓c_isNotB, ↓c_isN, ↓c_isNotN, ↓t_abs, ↓t_int, ↓t_intB, ↓t_len, ↓t_min, ↓t_max, ↓t_tupT, ↓t_lstT, ↓i_v, ↓i_tup, ↓i_lst, ↓i_call, ↓i_ix, ↓i_sl, ↓lc_nil, ↓lc_cons, ↓w_lcB, ↓fo_nil, ↓fo_cons, ↓ts_nil, ↓ts_cons, ↓t_all, ↓t_any, ↓t_tup, ↓wI_int, ↓wR_ok, ↓v_0, ↓v_1, ↓v_2, ↓v_3, ↓v_4, ↓v_5, ↓v_6, ↓v_7, ↓v_8, ↓v_9, ↓v_10, ↓v_11, ↓v_12, ↓v_13, ↓v_14, ↓v_15, ↓v_16, ↓v_17, ↓v_18, ↓v_19, ↓v_20, ↓v_21, ↓v_22, ↓v_23, ↓v_24, ↓v_25, ↓v_26, ↓v_27, ↓v_28, ↓v_29, ↓v_30, ↓v_31, ↓as_0, ↓as_1, ↓as_2, ↓as_3, ↓as_4, ↓as_5, ↓as_6, ↓as_7, ↓as_8, ↓as_9, ↓as_10, ↓as_11, ↓as_12, ↓as_13, ↓as_14, ↓as_15, ↓as_16, ↓as_17, ↓as_18, ↓as_19, ↓as_20, ↓as_21, ↓as_22, ↓as_23, ↓as_24, ↓as_25, ↓as_26, ↓as_27, ↓as_28, ↓as_29, ↓as_30, ↓as_31, ↓as_t, ↓as_n, ↓as_c, ↓x1_0, ↓x2_0, ↓x2_1, ↓x3_0, ↓x3_1, ↓x3_2, ↓x4_0, ↓x4_1, ↓x4_2, ↓x4_3, ↓x5_0, ↓x5_1, ↓x5_2, ↓x5_3, ↓x5_4, ↓gc_id, ↓gc_bl, ↓gc_bl2, ↓gc_bl3, ↓gc_i, ↓gc_i2, ↓gc_n, ↓gc_n2, ↓gc_ex, ↓gc_ex0, ↓gc_ex2, ↓ce_ii, ↓ce_bb, ↓ce_2, ↓ce_3, ↓cn_ii, ↓cn_bb, ↓cn_2, ↓cn_3, ↓pk_bl, ↓pk_int, ↓pk_tn, ↓pk_tc, ↓pk_non, ↓nb_bl, ↓nb_int, ↓yt_non, ↓yt_bl, ↓yt_int, ↓yt_str, ↓yt_tup, ↓wp_tup, List.length_cons, List.length_nil, lim, Nat.reduceAdd, Nat.reduceLeDiff, true_and, and_true, is_ii, is_ib, is_bi, is_bb, is_tt, is_lt, is_it, is_nt, is_st, is_ni, is_si, is_ti, is_li, Bool.not_true, Bool.not_false, Bool.false_eq_true, if_true, if_false, abs_eq, Int.cast_ofNat_Int, BEq.rfl, beq_iff_eq, Int.reduceBEq, Int.reduceLT, Int.reduceLE, Int.reduceNeg, Int.reduceEq, List.all_cons, List.all_nil, id, Bool.and_true, Bool.true_and, Bool.and_self, same_nil', oc_some, oc_none, bls, wBs_some, wipe, Option.map_some, List.set_cons_zero, List.set_cons_succ, decide_true, decide_false, ↓reduceIte, decide_eq_true_eq, Bool.not_eq_true', ↓p_0, ↓p_1, ↓p_2, ↓p_len, ↓p_eq, ↓p_ne, ↓p_ty, ↓p_items, ↓e_rv, ↓rv_2, mulOk_sm, ↓w_of _ _ h1, ↓w_of _ _ h2]
          simpa using hQ
      · rw [show isPt p = false by simpa using g1] at h1 hQ
        simp (decide := true) only [↓ss_cons, ↓ss_nil, ↓s_set, ↓s_ret, ↓s_retN, ↓s_expr, ↓s_ife, ↓s_raise, ↓s_cnt, ↓s_brk, ↓s_pass, ↓s_setX, ↓s_for, ↓s_foS, ↓e_k, ↓e_tup, ↓e_lst, ↓e_call, ↓e_blt, ↓e_cmp, ↓e_bin, ↓e_neg, ↓e_and, ↓e_or, ↓e_not, ↓e_ite, ↓e_chain, ↓e_ix, ↓e_isi, ↓e_meth, ↓e_sl, ↓e_lam, ↓e_lc, ↓es_cons, ↓es_nil, ↓o_no, ↓b_add, ↓b_sub, ↓b_subB, ↓b_addB, ↓b_mul, ↓b_div, ↓b_mod, ↓b_pow, ↓b_addT, ↓b_mulT, ↓c_lt, ↓c_le, ↓c_gt, ↓c_ge, ↓c_isB, ↓c_isNotB, ↓c_isN, ↓c_isNotN, ↓t_abs, ↓t_int, ↓t_intB, ↓t_len, ↓t_min, ↓t_max, ↓t_tupT, ↓t_lstT, ↓i_v, ↓i_tup, ↓i_lst, ↓i_call, ↓i_ix, ↓i_sl, ↓lc_nil, ↓lc_cons, ↓w_lcB, ↓fo_nil, ↓fo_cons, ↓ts_nil, ↓ts_cons, ↓t_all, ↓t_any, ↓t_tup, ↓wI_int, ↓wR_ok, ↓v_0, ↓v_1, ↓v_2, ↓v_3, ↓v_4, ↓v_5, ↓v_6, ↓v_7, ↓v_8, ↓v_9, ↓v_10, ↓v_11, ↓v_12, ↓v_13, ↓v_14, ↓v_15, ↓v_16, ↓v_17, ↓v_18, ↓v_19, ↓v_20, ↓v_21, ↓v_22, ↓v_23, ↓v_24, ↓v_25, ↓v_26, ↓v_27, ↓v_28, ↓v_29, ↓v_30, ↓v_31, ↓as_0, ↓as_1, ↓as_2, ↓as_3, ↓as_4, ↓as_5, ↓as_6, ↓as_7, ↓as_8, ↓as_9, ↓as_10, ↓as_11, ↓as_12, ↓as_13, ↓as_14, ↓as_15, ↓as_16, ↓as_17, ↓as_18, ↓as_19, ↓as_20, ↓as_21, ↓as_22, ↓as_23, ↓as_24, ↓as_25, ↓as_26, ↓as_27, ↓as_28, ↓as_29, ↓as_30, ↓as_31, ↓as_t, ↓as_n, ↓as_c, ↓x1_0, ↓x2_0, ↓x2_1, ↓x3_0, ↓x3_1, ↓x3_2, ↓x4_0, ↓x4_1, ↓x4_2, ↓x4_3, ↓x5_0, ↓x5_1, ↓x5_2, ↓x5_3, ↓x5_4, ↓gc_id, ↓gc_bl, ↓gc_bl2, ↓gc_bl3, ↓gc_i, ↓gc_i2, ↓gc_n, ↓gc_n2, ↓gc_ex, ↓gc_ex0, ↓gc_ex2, ↓ce_ii, ↓ce_bb, ↓ce_2, ↓ce_3, ↓cn_ii, ↓cn_bb, ↓cn_2, ↓cn_3, ↓pk_bl, ↓pk_int, ↓pk_tn, ↓pk_tc, ↓pk_non, ↓nb_bl, ↓nb_int, ↓yt_non, ↓yt_bl, ↓yt_int, ↓yt_str, ↓yt_tup, ↓wp_tup, List.length_cons, List.length_nil, lim, Nat.reduceAdd, Nat.reduceLeDiff, true_and, and_true, is_ii, is_ib, is_bi, is_bb, is_tt, is_lt, is_it, is_nt, is_st, is_ni, is_si, is_ti, is_li, Bool.not_true, Bool.not_false, Bool.false_eq_true, if_true, if_false, abs_eq, Int.cast_ofNat_Int, BEq.rfl, beq_iff_eq, Int.reduceBEq, Int.reduceLT, Int.reduceLE, Int.reduceNeg, Int.reduceEq, List.all_cons, List.all_nil, id, Bool.and_true, Bool.true_and, Bool.and_self, same_nil', oc_some, oc_none, bls, wBs_some, wipe, Option.map_some, List.set_cons_zero, List.set_cons_succ, decide_true, decide_false, ↓reduceIte, decide_eq_true_eq, Bool.not_eq_true', ↓p_0, ↓p_1, ↓p_2, ↓p_len, ↓p_eq, ↓p_ne, ↓p_ty, ↓p_items, ↓e_rv, ↓rv_2, mulOk_sm, ↓w_of _ _ h1]
        simpa using hQ
    · have e : segB (.tup xs) = false := by
        unfold segB
        split
        · rename_i p q h; cases h; exact absurd rfl hl
        · rfl
      have h' : ((xs.length : Int) == 2) = false := by simp; omega
      rw [e] at hQ
      simp (decide := true) only [↓ss_cons, ↓ss_nil, ↓s_set, ↓s_ret, ↓s_retN, ↓s_expr, ↓s_ife, ↓s_raise, ↓s_cnt, ↓s_brk, ↓s_pass, ↓s_setX, ↓s_for, ↓s_foS, ↓e_k, ↓e_tup, ↓e_lst, ↓e_call, ↓e_blt, ↓e_cmp, ↓e_bin, ↓e_neg, ↓e_and, ↓e_or, ↓e_not, ↓e_ite, ↓e_chain, ↓e_ix, ↓e_isi, ↓e_meth, ↓e_sl, ↓e_lam, ↓e_lc, ↓es_cons, ↓es_nil, ↓o_no, ↓b_add, ↓b_sub, ↓b_subB, ↓b_addB, ↓b_mul, ↓b_div, ↓b_mod, ↓b_pow, ↓b_addT, ↓b_mulT, ↓c_lt, ↓c_le, ↓c_gt, ↓c_ge, ↓c_isB, ↓c_isNotB, ↓c_isN, ↓c_isNotN, ↓t_abs, ↓t_int, ↓t_intB, ↓t_len, ↓t_min, ↓t_max, ↓t_tupT, ↓t_lstT, ↓i_v, ↓i_tup, ↓i_lst, ↓i_call, ↓i_ix, ↓i_sl, ↓lc_nil, ↓lc_cons, ↓w_lcB, ↓fo_nil, ↓fo_cons, ↓ts_nil, ↓ts_cons, ↓t_all, ↓t_any, ↓t_tup, ↓wI_int, ↓wR_ok, ↓v_0, ↓v_1, ↓v_2, ↓v_3, ↓v_4, ↓v_5, ↓v_6, ↓v_7, ↓v_8, ↓v_9, ↓v_10, ↓v_11, ↓v_12, ↓v_13, ↓v_14, ↓v_15, ↓v_16, ↓v_17, ↓v_18, ↓v_19, ↓v_20, ↓v_21, ↓v_22, ↓v_23, ↓v_24, ↓v_25, ↓v_26, ↓v_27, ↓v_28, ↓v_29, ↓v_30, ↓v_31, ↓as_0, ↓as_1, ↓as_2, ↓as_3, ↓as_4, ↓as_5, ↓as_6, ↓as_7, ↓as_8, ↓as_9, ↓as_10, ↓as_11, ↓as_12, ↓as_13, ↓as_14, ↓as_15, ↓as_16, ↓as_17, ↓as_18, ↓as_19, ↓as_20, ↓as_21, ↓as_22, ↓as_23, ↓as_24, ↓as_25, ↓as_26, ↓as_27, ↓as_28, ↓as_29, ↓as_30, ↓as_31, ↓as_t, ↓as_n, ↓as_c, ↓x1_0, ↓x2_0, ↓x2_1, ↓x3_0, ↓x3_1, ↓x3_2, ↓x4_0, ↓x4_1, ↓x4_2, ↓x4_3, ↓x5_0, ↓x5_1, ↓x5_2, ↓x5_3, ↓x5_4, ↓gc_id, ↓gc_bl, ↓gc_bl2, ↓gc_bl3, ↓gc_i, ↓gc_i2, ↓gc_n, ↓gc_n2, ↓gc_ex, ↓gc_ex0, ↓gc_ex2, ↓ce_ii, ↓ce_bb, ↓ce_2, ↓ce_3, ↓cn_ii, ↓cn_bb, ↓cn_2, ↓cn_3, ↓pk_bl, ↓pk_int, ↓pk_tn, ↓pk_tc, ↓pk_non, ↓nb_bl, ↓nb_int, ↓yt_non, ↓yt_bl, ↓yt_int, ↓yt_str, ↓yt_tup, ↓wp_tup, List.length_cons, List.length_nil, lim, Nat.reduceAdd, Nat.reduceLeDiff, true_and, and_true, is_ii, is_ib, is_bi, is_bb, is_tt, is_lt, is_it, is_nt, is_st, is_ni, is_si, is_ti, is_li, Bool.not_true, Bool.not_false, Bool.false_eq_true, if_true, if_false, abs_eq, Int.cast_ofNat_Int, BEq.rfl, beq_iff_eq, Int.reduceBEq, Int.reduceLT, Int.reduceLE, Int.reduceNeg, Int.reduceEq, List.all_cons, List.all_nil, id, Bool.and_true, Bool.true_and, Bool.and_self, same_nil', oc_some, oc_none, bls, wBs_some, wipe, Option.map_some, List.set_cons_zero, List.set_cons_succ, decide_true, decide_false, ↓reduceIte, decide_eq_true_eq, Bool.not_eq_true', ↓p_0, ↓p_1, ↓p_2, ↓p_len, ↓p_eq, ↓p_ne, ↓p_ty, ↓p_items, ↓e_rv, ↓rv_2, mulOk_sm, h']
      exact hQ
  | ref n =>
    have ht : ∃ t, (t = "list" ∨ t = "dict" ∨ t = "set") ∧ ∀ P : String → Prop, wTy (tyOf c (.ref n)) P = P t := by
      have h : (tyOf c (.ref n)).isSome = true := hd
      unfold tyOf at h ⊢
      dsimp only at h ⊢
      cases q : c[n]? with
      | none => rw [q] at h; cases h
      | some u => cases u with
        | lst _ => exact ⟨_, .inl rfl, fun _ => rfl⟩
        | frz _ => exact ⟨_, .inl rfl, fun _ => rfl⟩
        | dct _ => exact ⟨_, .inr (.inl rfl), fun _ => rfl⟩
        | set _ => exact ⟨_, .inr (.inr rfl), fun _ => rfl⟩
    obtain ⟨t, ht1, ht2⟩ := ht
    have hi : isTy t ["tuple"] = false := by rcases ht1 with rfl | rfl | rfl <;> decide
    simp (decide := true) only [↓ss_cons, ↓ss_nil, ↓s_set, ↓s_ret, ↓s_retN, ↓s_expr, ↓s_ife, ↓s_raise, ↓s_cnt, ↓s_brk, ↓s_pass, ↓s_setX, ↓s_for, ↓s_foS, ↓e_k, ↓e_tup, ↓e_lst, ↓e_call, ↓e_blt, ↓e_cmp, ↓e_bin, ↓e_neg, ↓e_and, ↓e_or, ↓e_not, ↓e_ite, ↓e_chain, ↓e_ix, ↓e_isi, ↓e_meth, ↓e_sl, ↓e_lam, ↓e_lc, ↓es_cons, ↓es_nil, ↓o_no, ↓b_add, ↓b_sub, ↓b_subB, ↓b_addB, ↓b_mul, ↓b_div, ↓b_mod, ↓b_pow, ↓b_addT, ↓b_mulT, ↓c_lt, ↓c_le, ↓c_gt, ↓c_ge, ↓c_isB, ↓c_isNotB, ↓c_isN, ↓c_isNotN, ↓t_abs, ↓t_int, ↓t_intB, ↓t_len, ↓t_min, ↓t_max, ↓t_tupT, ↓t_lstT, ↓i_v, ↓i_tup, ↓i_lst, ↓i_call, ↓i_ix, ↓i_sl, ↓lc_nil, ↓lc_cons, ↓w_lcB, ↓fo_nil, ↓fo_cons, ↓ts_nil, ↓ts_cons, ↓t_all, ↓t_any, ↓t_tup, ↓wI_int, ↓wR_ok, ↓v_0, ↓v_1, ↓v_2, ↓v_3, ↓v_4, ↓v_5, ↓v_6, ↓v_7, ↓v_8, ↓v_9, ↓v_10, ↓v_11, ↓v_12, ↓v_13, ↓v_14, ↓v_15, ↓v_16, ↓v_17, ↓v_18, ↓v_19, ↓v_20, ↓v_21, ↓v_22, ↓v_23, ↓v_24, ↓v_25, ↓v_26, ↓v_27, ↓v_28, ↓v_29, ↓v_30, ↓v_31, ↓as_0, ↓as_1, ↓as_2, ↓as_3, ↓as_4, ↓as_5, ↓as_6, ↓as_7, ↓as_8, ↓as_9, ↓as_10, ↓as_11, ↓as_12, ↓as_13, ↓as_14, ↓as_15, ↓as_16, ↓as_17, ↓as_18, ↓as_19, ↓as_20, ↓as_21, ↓as_22, ↓as_23, ↓as_24, ↓as_25, ↓as_26, ↓as_27, ↓as_28, ↓as_29, ↓as_30, ↓as_31, ↓as_t, ↓as_n, ↓as_c, ↓x1_0, ↓x2_0, ↓x2_1, ↓x3_0, ↓x3_1, ↓x3_2, ↓x4_0, ↓x4_1, ↓x4_2, ↓x4_3, ↓x5_0, ↓x5_1, ↓x5_2, ↓x5_3, ↓x5_4, ↓gc_id, ↓gc_bl, ↓gc_bl2, ↓gc_bl3, ↓gc_i, ↓gc_i2, ↓gc_n, ↓gc_n2, ↓gc_ex, ↓gc_ex0, ↓gc_ex2, ↓ce_ii, ↓ce_bb, ↓ce_2, ↓ce_3, ↓cn_ii, ↓cn_bb, ↓cn_2, ↓cn_3, ↓pk_bl, ↓pk_int, ↓pk_tn, ↓pk_tc, ↓pk_non, ↓nb_bl, ↓nb_int, ↓yt_non, ↓yt_bl, ↓yt_int, ↓yt_str, ↓yt_tup, ↓wp_tup, List.length_cons, List.length_nil, lim, Nat.reduceAdd, Nat.reduceLeDiff, true_and, and_true, is_ii, is_ib, is_bi, is_bb, is_tt, is_lt, is_it, is_nt, is_st, is_ni, is_si, is_ti, is_li, Bool.not_true, Bool.not_false, Bool.false_eq_true, if_true, if_false, abs_eq, Int.cast_ofNat_Int, BEq.rfl, beq_iff_eq, Int.reduceBEq, Int.reduceLT, Int.reduceLE, Int.reduceNeg, Int.reduceEq, List.all_cons, List.all_nil, id, Bool.and_true, Bool.true_and, Bool.and_self, same_nil', oc_some, oc_none, bls, wBs_some, wipe, Option.map_some, List.set_cons_zero, List.set_cons_succ, decide_true, decide_false, ↓reduceIte, decide_eq_true_eq, Bool.not_eq_true', ↓p_0, ↓p_1, ↓p_2, ↓p_len, ↓p_eq, ↓p_ne, ↓p_ty, ↓p_items, ↓e_rv, ↓rv_2, mulOk_sm, ↓ht2, hi]
    exact hQ
  | _ =>
    simp (decide := true) only [↓ss_cons, ↓ss_nil, ↓s_set, ↓s_ret, ↓s_retN, ↓s_expr, ↓s_ife, ↓s_raise, ↓s_cnt, ↓s_brk, ↓s_pass, ↓s_setX, ↓s_for, ↓s_foS, ↓e_k, ↓e_tup, ↓e_lst, ↓e_call, ↓e_blt, ↓e_cmp, ↓e_bin, ↓e_neg, ↓e_and, ↓e_or, ↓e_not, ↓e_ite, ↓e_chain, ↓e_ix, ↓e_isi, ↓e_meth, ↓e_sl, ↓e_lam, ↓e_lc, ↓es_cons, ↓es_nil, ↓o_no, ↓b_add, ↓b_sub, ↓b_subB, ↓b_addB, ↓b_mul, ↓b_div, ↓b_mod, ↓b_pow, ↓b_addT, ↓b_mulT, ↓c_lt, ↓c_le, ↓c_gt, ↓c_ge, ↓c_isB, ↓c_isNotB, ↓c_isN, ↓c_isNotN, ↓t_abs, ↓t_int, ↓t_intB, ↓t_len, ↓t_min, ↓t_max, ↓t_tupT, ↓t_lstT, ↓i_v, ↓i_tup, ↓i_lst, ↓i_call, ↓i_ix, ↓i_sl, ↓lc_nil, ↓lc_cons, ↓w_lcB, ↓fo_nil, ↓fo_cons, ↓ts_nil, ↓ts_cons, ↓t_all, ↓t_any, ↓t_tup, ↓wI_int, ↓wR_ok, ↓v_0, ↓v_1, ↓v_2, ↓v_3, ↓v_4, ↓v_5, ↓v_6, ↓v_7, ↓v_8, ↓v_9, ↓v_10, ↓v_11, ↓v_12, ↓v_13, ↓v_14, ↓v_15, ↓v_16, ↓v_17, ↓v_18, ↓v_19, ↓v_20, ↓v_21, ↓v_22, ↓v_23, ↓v_24, ↓v_25, ↓v_26, ↓v_27, ↓v_28, ↓v_29, ↓v_30, ↓v_31, ↓as_0, ↓as_1, ↓as_2, ↓as_3, ↓as_4, ↓as_5, ↓as_6, ↓as_7, ↓as_8, ↓as_9, ↓as_10, ↓as_11, ↓as_12, ↓as_13, ↓as_14, ↓as_15, ↓as_16, ↓as_17, ↓as_18, ↓as_19, ↓as_20, ↓as_21, ↓as_22, ↓as_23, ↓as_24, ↓as_25, ↓as_26, ↓as_27, ↓as_28, ↓as_29, ↓as_30, ↓as_31, ↓as_t, ↓as_n, ↓as_c, ↓x1_0, ↓x2_0, ↓x2_1, ↓x3_0, ↓x3_1, ↓x3_2, ↓x4_0, ↓x4_1, ↓x4_2, ↓x4_3, ↓x5_0, ↓x5_1, ↓x5_2, ↓x5_3, ↓x5_4, ↓gc_id, ↓gc_bl, ↓gc_bl2, ↓gc_bl3, ↓gc_i, ↓gc_i2, ↓gc_n, ↓gc_n2, ↓gc_ex, ↓gc_ex0, ↓gc_ex2, ↓ce_ii, ↓ce_bb, ↓ce_2, ↓ce_3, ↓cn_ii, ↓cn_bb, ↓cn_2, ↓cn_3, ↓pk_bl, ↓pk_int, ↓pk_tn, ↓pk_tc, ↓pk_non, ↓nb_bl, ↓nb_int, ↓yt_non, ↓yt_bl, ↓yt_int, ↓yt_str, ↓yt_tup, ↓wp_tup, List.length_cons, List.length_nil, lim, Nat.reduceAdd, Nat.reduceLeDiff, true_and, and_true, is_ii, is_ib, is_bi, is_bb, is_tt, is_lt, is_it, is_nt, is_st, is_ni, is_si, is_ti, is_li, Bool.not_true, Bool.not_false, Bool.false_eq_true, if_true, if_false, abs_eq, Int.cast_ofNat_Int, BEq.rfl, beq_iff_eq, Int.reduceBEq, Int.reduceLT, Int.reduceLE, Int.reduceNeg, Int.reduceEq, List.all_cons, List.all_nil, id, Bool.and_true, Bool.true_and, Bool.and_self, same_nil', oc_some, oc_none, bls, wBs_some, wipe, Option.map_some, List.set_cons_zero, List.set_cons_succ, decide_true, decide_false, ↓reduceIte, decide_eq_true_eq, Bool.not_eq_true', ↓p_0, ↓p_1, ↓p_2, ↓p_len, ↓p_eq, ↓p_ne, ↓p_ty, ↓p_items, ↓e_rv, ↓rv_2, mulOk_sm]
    exact hQ
section
variable [HasFn T "is_segment" F.is_segment] [HasFn T "is_point" F.is_point] [HasFn T "is_number" F.is_number] [HasFn T "common" F.common] [hk : HasFn T "check_segment" F.check_segment]
theorem segB_ok {a b : Pn} (ha : a.V) (hb : b.V) (h : a ≠ b) : segB (segD a b) = true := by
  have e : eqD a.d b.d = decide (a = b) := by
    rw [Bool.eq_iff_iff, eqD_it _ _ (Pn.it_d a) (Pn.it_d b), Pn.d_inj]; simp
  show (isPt a.d && isPt b.d && !eqD a.d b.d) = true
  rw [(isPt_d a).mpr ha, (isPt_d b).mpr hb, e]
  simp [h]
theorem checksegment_p (a b : Pn) [ha : Pn.Ok a] [hb : Pn.Ok b] (h : a ≠ b) : callD T (k + 4) "check_segment" [segD a b] c = .ok .non c := by
  refine eq_of fun Q E hQ => call_body (fn := F.check_segment) hk.h rfl ?_
  unfold F.check_segment
  show wS (dSs _ _ [some (segD a b)] c) _
  have e := issegment_e (T := T) k c (segD a b) (by intro x hx; simp at hx; rcases hx with rfl | rfl <;> exact Pn.vals c _)
  rw [segB_ok ha.pt hb.pt h] at e
  simp (decide := true) only [↓ss_cons, ↓ss_nil, ↓s_set, ↓s_ret, ↓s_retN, ↓s_expr, ↓s_ife, ↓s_raise, ↓s_cnt, ↓s_brk, ↓s_pass, ↓s_setX, ↓s_for, ↓s_foS, ↓e_k, ↓e_tup, ↓e_lst, ↓e_call, ↓e_blt, ↓e_cmp, ↓e_bin, ↓e_neg, ↓e_and, ↓e_or, ↓e_not, ↓e_ite, ↓e_chain, ↓e_ix, ↓e_isi, ↓e_meth, ↓e_sl, ↓e_lam, ↓e_lc, ↓es_cons, ↓es_nil, ↓o_no, ↓b_add, ↓b_sub, ↓b_subB, ↓b_addB, ↓b_mul, ↓b_div, ↓b_mod, ↓b_pow, ↓b_addT, ↓b_mulT, ↓c_lt, ↓c_le, ↓c_gt, ↓c_ge, ↓c_isB, ↓c_isNotB, ↓c_isN, ↓c_isNotN, ↓t_abs, ↓t_int, ↓t_intB, ↓t_len, ↓t_min, ↓t_max, ↓t_tupT, ↓t_lstT, ↓i_v, ↓i_tup, ↓i_lst, ↓i_call, ↓i_ix, ↓i_sl, ↓lc_nil, ↓lc_cons, ↓w_lcB, ↓fo_nil, ↓fo_cons, ↓ts_nil, ↓ts_cons, ↓t_all, ↓t_any, ↓t_tup, ↓wI_int, ↓wR_ok, ↓v_0, ↓v_1, ↓v_2, ↓v_3, ↓v_4, ↓v_5, ↓v_6, ↓v_7, ↓v_8, ↓v_9, ↓v_10, ↓v_11, ↓v_12, ↓v_13, ↓v_14, ↓v_15, ↓v_16, ↓v_17, ↓v_18, ↓v_19, ↓v_20, ↓v_21, ↓v_22, ↓v_23, ↓v_24, ↓v_25, ↓v_26, ↓v_27, ↓v_28, ↓v_29, ↓v_30, ↓v_31, ↓as_0, ↓as_1, ↓as_2, ↓as_3, ↓as_4, ↓as_5, ↓as_6, ↓as_7, ↓as_8, ↓as_9, ↓as_10, ↓as_11, ↓as_12, ↓as_13, ↓as_14, ↓as_15, ↓as_16, ↓as_17, ↓as_18, ↓as_19, ↓as_20, ↓as_21, ↓as_22, ↓as_23, ↓as_24, ↓as_25, ↓as_26, ↓as_27, ↓as_28, ↓as_29, ↓as_30, ↓as_31, ↓as_t, ↓as_n, ↓as_c, ↓x1_0, ↓x2_0, ↓x2_1, ↓x3_0, ↓x3_1, ↓x3_2, ↓x4_0, ↓x4_1, ↓x4_2, ↓x4_3, ↓x5_0, ↓x5_1, ↓x5_2, ↓x5_3, ↓x5_4, ↓gc_id, ↓gc_bl, ↓gc_bl2, ↓gc_bl3, ↓gc_i, ↓gc_i2, ↓gc_n, ↓gc_n2, ↓gc_ex, ↓gc_ex0, ↓gc_ex2, ↓ce_ii, ↓ce_bb, ↓ce_2, ↓ce_3, ↓cn_ii, ↓cn_bb, ↓cn_2, ↓cn_3, ↓pk_bl, ↓pk_int, ↓pk_tn, ↓pk_tc, ↓pk_non, ↓nb_bl, ↓nb_int, ↓yt_non, ↓yt_bl, ↓yt_int, ↓yt_str, ↓yt_tup, ↓wp_tup, List.length_cons, List.length_nil, lim, Nat.reduceAdd, Nat.reduceLeDiff, true_and, and_true, is_ii, is_ib, is_bi, is_bb, is_tt, is_lt, is_it, is_nt, is_st, is_ni, is_si, is_ti, is_li, Bool.not_true, Bool.not_false, Bool.false_eq_true, if_true, if_false, abs_eq, Int.cast_ofNat_Int, BEq.rfl, beq_iff_eq, Int.reduceBEq, Int.reduceLT, Int.reduceLE, Int.reduceNeg, Int.reduceEq, List.all_cons, List.all_nil, id, Bool.and_true, Bool.true_and, Bool.and_self, same_nil', oc_some, oc_none, bls, wBs_some, wipe, Option.map_some, List.set_cons_zero, List.set_cons_succ, decide_true, decide_false, ↓reduceIte, decide_eq_true_eq, Bool.not_eq_true', ↓p_0, ↓p_1, ↓p_2, ↓p_len, ↓p_eq, ↓p_ne, ↓p_ty, ↓p_items, ↓e_rv, ↓rv_2, mulOk_sm, ↓w_of _ _ e]
  exact hQ
theorem checksegment_x (d : D) (hd : match d with | .tup xs => ∀ x ∈ xs, x.vals c | .ref n => (tyOf c (.ref n)).isSome = true | _ => True) (h : segB d = false) : callD T (k + 4) "check_segment" [d] c = .ex "BadShape" c := by
  refine ex_of fun Q E hQ => call_body (fn := F.check_segment) hk.h rfl ?_
  unfold F.check_segment
  show wS (dSs _ _ [some d] c) _
  have e := issegment_e (T := T) k c d hd
  rw [h] at e
  simp (decide := true) only [↓ss_cons, ↓ss_nil, ↓s_set, ↓s_ret, ↓s_retN, ↓s_expr, ↓s_ife, ↓s_raise, ↓s_cnt, ↓s_brk, ↓s_pass, ↓s_setX, ↓s_for, ↓s_foS, ↓e_k, ↓e_tup, ↓e_lst, ↓e_call, ↓e_blt, ↓e_cmp, ↓e_bin, ↓e_neg, ↓e_and, ↓e_or, ↓e_not, ↓e_ite, ↓e_chain, ↓e_ix, ↓e_isi, ↓e_meth, ↓e_sl, ↓e_lam, ↓e_lc, ↓es_cons, ↓es_nil, ↓o_no, ↓b_add, ↓b_sub, ↓b_subB, ↓b_addB, ↓b_mul, ↓b_div, ↓b_mod, ↓b_pow, ↓b_addT, ↓b_mulT, ↓c_lt, ↓c_le, ↓c_gt, ↓c_ge, ↓c_isB, ↓c_isNotB, ↓c_isN, ↓c_isNotN, ↓t_abs, ↓t_int, ↓t_intB, ↓t_len, ↓t_min, ↓t_max, ↓t_tupT, ↓t_lstT, ↓i_v, ↓i_tup, ↓i_lst, ↓i_call, ↓i_ix, ↓i_sl, ↓lc_nil, ↓lc_cons, ↓w_lcB, ↓fo_nil, ↓fo_cons, ↓ts_nil, ↓ts_cons, ↓t_all, ↓t_any, ↓t_tup, ↓wI_int, ↓wR_ok, ↓v_0, ↓v_1, ↓v_2, ↓v_3, ↓v_4, ↓v_5, ↓v_6, ↓v_7, ↓v_8, ↓v_9, ↓v_10, ↓v_11, ↓v_12, ↓v_13, ↓v_14, ↓v_15, ↓v_16, ↓v_17, ↓v_18, ↓v_19, ↓v_20, ↓v_21, ↓v_22, ↓v_23, ↓v_24, ↓v_25, ↓v_26, ↓v_27, ↓v_28, ↓v_29, ↓v_30, ↓v_31, ↓as_0, ↓as_1, ↓as_2, ↓as_3, ↓as_4, ↓as_5, ↓as_6, ↓as_7, ↓as_8, ↓as_9, ↓as_10, ↓as_11, ↓as_12, ↓as_13, ↓as_14, ↓as_15, ↓as_16, ↓as_17, ↓as_18, ↓as_19, ↓as_20, ↓as_21, ↓as_22, ↓as_23, ↓as_24, ↓as_25, ↓as_26, ↓as_27, ↓as_28, ↓as_29, ↓as_30, ↓as_31, ↓as_t, ↓as_n, ↓as_c, ↓x1_0, ↓x2_0, ↓x2_1, ↓x3_0, ↓x3_1, ↓x3_2, ↓x4_0, ↓x4_1, ↓x4_2, ↓x4_3, ↓x5_0, ↓x5_1, ↓x5_2, ↓x5_3, ↓x5_4, ↓gc_id, ↓gc_bl, ↓gc_bl2, ↓gc_bl3, ↓gc_i, ↓gc_i2, ↓gc_n, ↓gc_n2, ↓gc_ex, ↓gc_ex0, ↓gc_ex2, ↓ce_ii, ↓ce_bb, ↓ce_2, ↓ce_3, ↓cn_ii, ↓cn_bb, ↓cn_2, ↓cn_3, ↓pk_bl, ↓pk_int, ↓pk_tn, ↓pk_tc, ↓pk_non, ↓nb_bl, ↓nb_int, ↓yt_non, ↓yt_bl, ↓yt_int, ↓yt_str, ↓yt_tup, ↓wp_tup, List.length_cons, List.length_nil, lim, Nat.reduceAdd, Nat.reduceLeDiff, true_and, and_true, is_ii, is_ib, is_bi, is_bb, is_tt, is_lt, is_it, is_nt, is_st, is_ni, is_si, is_ti, is_li, Bool.not_true, Bool.not_false, Bool.false_eq_true, if_true, if_false, abs_eq, Int.cast_ofNat_Int, BEq.rfl, beq_iff_eq, Int.reduceBEq, Int.reduceLT, Int.reduceLE, Int.reduceNeg, Int.reduceEq, List.all_cons, List.all_nil, id, Bool.and_true, Bool.true_and, Bool.and_self, same_nil', oc_some, oc_none, bls, wBs_some, wipe, Option.map_some, List.set_cons_zero, List.set_cons_succ, decide_true, decide_false, ↓reduceIte, decide_eq_true_eq, Bool.not_eq_true', ↓p_0, ↓p_1, ↓p_2, ↓p_len, ↓p_eq, ↓p_ne, ↓p_ty, ↓p_items, ↓e_rv, ↓rv_2, mulOk_sm, ↓w_of _ _ e]
  exact hQ
theorem crossing_e [hf : HasFn T "crossing" F.crossing] [HasFn T "both_have" F.both_have] [HasFn T "made_of" F.made_of] [HasFn T "line" F.line] [HasFn T "side" F.side] [HasFn T "compared" F.compared] [HasFn T "made" (F.made "common")]
    (a b x y : Pn) [ha : Pn.Ok a] [hb : Pn.Ok b] [hx : Pn.Ok x] [hy : Pn.Ok y] (h1 : a ≠ b) (h2 : x ≠ y) : callD T (k + 5) "crossing" [segD a b, segD x y] c = .ok (bothR a b x y).D c := by
  refine eq_of fun Q E hQ => call_body (fn := F.crossing) hf.h rfl ?_
  unfold F.crossing
  show wS (dSs _ _ [some (segD a b), some (segD x y)] c) _
  simp (decide := true) only [↓ss_cons, ↓ss_nil, ↓s_set, ↓s_ret, ↓s_retN, ↓s_expr, ↓s_ife, ↓s_raise, ↓s_cnt, ↓s_brk, ↓s_pass, ↓s_setX, ↓s_for, ↓s_foS, ↓e_k, ↓e_tup, ↓e_lst, ↓e_call, ↓e_blt, ↓e_cmp, ↓e_bin, ↓e_neg, ↓e_and, ↓e_or, ↓e_not, ↓e_ite, ↓e_chain, ↓e_ix, ↓e_isi, ↓e_meth, ↓e_sl, ↓e_lam, ↓e_lc, ↓es_cons, ↓es_nil, ↓o_no, ↓b_add, ↓b_sub, ↓b_subB, ↓b_addB, ↓b_mul, ↓b_div, ↓b_mod, ↓b_pow, ↓b_addT, ↓b_mulT, ↓c_lt, ↓c_le, ↓c_gt, ↓c_ge, ↓c_isB, ↓c_isNotB, ↓c_isN, ↓c_isNotN, ↓t_abs, ↓t_int, ↓t_intB, ↓t_len, ↓t_min, ↓t_max, ↓t_tupT, ↓t_lstT, ↓i_v, ↓i_tup, ↓i_lst, ↓i_call, ↓i_ix, ↓i_sl, ↓lc_nil, ↓lc_cons, ↓w_lcB, ↓fo_nil, ↓fo_cons, ↓ts_nil, ↓ts_cons, ↓t_all, ↓t_any, ↓t_tup, ↓wI_int, ↓wR_ok, ↓v_0, ↓v_1, ↓v_2, ↓v_3, ↓v_4, ↓v_5, ↓v_6, ↓v_7, ↓v_8, ↓v_9, ↓v_10, ↓v_11, ↓v_12, ↓v_13, ↓v_14, ↓v_15, ↓v_16, ↓v_17, ↓v_18, ↓v_19, ↓v_20, ↓v_21, ↓v_22, ↓v_23, ↓v_24, ↓v_25, ↓v_26, ↓v_27, ↓v_28, ↓v_29, ↓v_30, ↓v_31, ↓as_0, ↓as_1, ↓as_2, ↓as_3, ↓as_4, ↓as_5, ↓as_6, ↓as_7, ↓as_8, ↓as_9, ↓as_10, ↓as_11, ↓as_12, ↓as_13, ↓as_14, ↓as_15, ↓as_16, ↓as_17, ↓as_18, ↓as_19, ↓as_20, ↓as_21, ↓as_22, ↓as_23, ↓as_24, ↓as_25, ↓as_26, ↓as_27, ↓as_28, ↓as_29, ↓as_30, ↓as_31, ↓as_t, ↓as_n, ↓as_c, ↓x1_0, ↓x2_0, ↓x2_1, ↓x3_0, ↓x3_1, ↓x3_2, ↓x4_0, ↓x4_1, ↓x4_2, ↓x4_3, ↓x5_0, ↓x5_1, ↓x5_2, ↓x5_3, ↓x5_4, ↓gc_id, ↓gc_bl, ↓gc_bl2, ↓gc_bl3, ↓gc_i, ↓gc_i2, ↓gc_n, ↓gc_n2, ↓gc_ex, ↓gc_ex0, ↓gc_ex2, ↓ce_ii, ↓ce_bb, ↓ce_2, ↓ce_3, ↓cn_ii, ↓cn_bb, ↓cn_2, ↓cn_3, ↓pk_bl, ↓pk_int, ↓pk_tn, ↓pk_tc, ↓pk_non, ↓nb_bl, ↓nb_int, ↓yt_non, ↓yt_bl, ↓yt_int, ↓yt_str, ↓yt_tup, ↓wp_tup, List.length_cons, List.length_nil, lim, Nat.reduceAdd, Nat.reduceLeDiff, true_and, and_true, is_ii, is_ib, is_bi, is_bb, is_tt, is_lt, is_it, is_nt, is_st, is_ni, is_si, is_ti, is_li, Bool.not_true, Bool.not_false, Bool.false_eq_true, if_true, if_false, abs_eq, Int.cast_ofNat_Int, BEq.rfl, beq_iff_eq, Int.reduceBEq, Int.reduceLT, Int.reduceLE, Int.reduceNeg, Int.reduceEq, List.all_cons, List.all_nil, id, Bool.and_true, Bool.true_and, Bool.and_self, same_nil', oc_some, oc_none, bls, wBs_some, wipe, Option.map_some, List.set_cons_zero, List.set_cons_succ, decide_true, decide_false, ↓reduceIte, decide_eq_true_eq, Bool.not_eq_true', ↓p_0, ↓p_1, ↓p_2, ↓p_len, ↓p_eq, ↓p_ne, ↓p_ty, ↓p_items, ↓e_rv, ↓rv_2, mulOk_sm, ↓w_of _ _ (checksegment_p _ _ a b h1), ↓w_of _ _ (checksegment_p _ _ x y h2), ↓w_of _ _ (both_have_e _ _ a b x y)]
  exact hQ
end
end
end G
end

section
set_option maxRecDepth 100000
set_option autoImplicit false
namespace K03
open G
abbrev s : String → PySem.Str := PySem.Str.ofString
/-- ["x"] -/
def fn_is_number : Fn := ⟨1, 1, [
  .ret (.and (.isi (.v 0) ["int"]) (.not (.isi (.v 0) ["bool"])))]⟩
/-- ["a", "b"] -/
def fn_common : Fn := ⟨2, 2, [
  .set (.tup [(.v 0), (.v 1)]) (.tup [(.blt .abs [(.v 0)]), (.blt .abs [(.v 1)])]),
  .whl (.cmp .Gt (.v 1) (.k (.int (0)))) [
    .set (.tup [(.v 0), (.v 1)]) (.tup [(.v 1), (.bin .Mod (.v 0) (.v 1))])],
  .ret (.v 0)]⟩
/-- ["x", "y", "w", "by"] -/
def fn_made : Fn := ⟨3, 4, [
  .ife (.cmp .Lt (.v 2) (.k (.int (0)))) [
    .set (.tup [(.v 0), (.v 1), (.v 2)]) (.tup [(.neg (.v 0)), (.neg (.v 1)), (.neg (.v 2))])] [],
  .set (.v 3) (.call "common" [(.call "common" [(.v 0), (.v 1)]), (.v 2)]),
  .ret (.tup [(.bin .FloorDiv (.v 0) (.v 3)), (.bin .FloorDiv (.v 1) (.v 3)), (.bin .FloorDiv (.v 2) (.v 3))])]⟩
/-- ["x", ".0", "one"] -/
def fn_is_point : Fn := ⟨1, 3, [
  .ife (.or (.not (.isi (.v 0) ["tuple"])) (.or (.cmp .NotEq (.blt .len [(.v 0)]) (.k (.int (3)))) (.not (.blt .all [(.lc [1, 2] (.v 2) (.v 0) [] (.call "is_number" [(.v 2)]))])))) [
    .ret (.k (.bl false))] [],
  .ret (.and (.cmp .GtE (.ix (.v 0) (.k (.int (2)))) (.k (.int (1)))) (.cmp .Eq (.call "common" [(.call "common" [(.ix (.v 0) (.k (.int (0)))), (.ix (.v 0) (.k (.int (1))))]), (.ix (.v 0) (.k (.int (2))))]) (.k (.int (1)))))]⟩
/-- ["p", "q", "k", "one", "other"] -/
def fn_compared : Fn := ⟨2, 5, [
  .for (.v 2) (.tup [(.k (.int (0))), (.k (.int (1)))]) [
    .set (.tup [(.v 3), (.v 4)]) (.tup [(.bin .Mult (.ix (.v 0) (.v 2)) (.ix (.v 1) (.k (.int (2))))), (.bin .Mult (.ix (.v 1) (.v 2)) (.ix (.v 0) (.k (.int (2)))))]),
    .ife (.cmp .NotEq (.v 3) (.v 4)) [
      .ret (.ite (.cmp .Lt (.v 3) (.v 4)) (.neg (.k (.int (1)))) (.k (.int (1))))] []],
  .ret (.k (.int (0)))]⟩
/-- ["a", "b", "c", "worth"] -/
def fn_side : Fn := ⟨3, 4, [
  .set (.v 3) (.bin .Add (.bin .Sub (.bin .Mult (.ix (.v 0) (.k (.int (0)))) (.bin .Sub (.bin .Mult (.ix (.v 1) (.k (.int (1)))) (.ix (.v 2) (.k (.int (2))))) (.bin .Mult (.ix (.v 1) (.k (.int (2)))) (.ix (.v 2) (.k (.int (1))))))) (.bin .Mult (.ix (.v 0) (.k (.int (1)))) (.bin .Sub (.bin .Mult (.ix (.v 1) (.k (.int (0)))) (.ix (.v 2) (.k (.int (2))))) (.bin .Mult (.ix (.v 1) (.k (.int (2)))) (.ix (.v 2) (.k (.int (0)))))))) (.bin .Mult (.ix (.v 0) (.k (.int (2)))) (.bin .Sub (.bin .Mult (.ix (.v 1) (.k (.int (0)))) (.ix (.v 2) (.k (.int (1))))) (.bin .Mult (.ix (.v 1) (.k (.int (1)))) (.ix (.v 2) (.k (.int (0)))))))),
  .ret (.bin .Sub (.cmp .Gt (.v 3) (.k (.int (0)))) (.cmp .Lt (.v 3) (.k (.int (0)))))]⟩
/-- ["x"] -/
def fn_is_segment : Fn := ⟨1, 1, [
  .ret (.and (.isi (.v 0) ["tuple"]) (.and (.cmp .Eq (.blt .len [(.v 0)]) (.k (.int (2)))) (.and (.call "is_point" [(.ix (.v 0) (.k (.int (0))))]) (.and (.call "is_point" [(.ix (.v 0) (.k (.int (1))))]) (.cmp .NotEq (.ix (.v 0) (.k (.int (0)))) (.ix (.v 0) (.k (.int (1)))))))))]⟩
/-- ["x"] -/
def fn_check_segment : Fn := ⟨1, 1, [
  .ife (.not (.call "is_segment" [(.v 0)])) [
    .raise "BadShape"] []]⟩
/-- ["a", "b"] -/
def fn_line : Fn := ⟨2, 2, [
  .ret (.tup [(.bin .Sub (.bin .Mult (.ix (.v 0) (.k (.int (1)))) (.ix (.v 1) (.k (.int (2))))) (.bin .Mult (.ix (.v 0) (.k (.int (2)))) (.ix (.v 1) (.k (.int (1)))))), (.bin .Sub (.bin .Mult (.ix (.v 0) (.k (.int (2)))) (.ix (.v 1) (.k (.int (0))))) (.bin .Mult (.ix (.v 0) (.k (.int (0)))) (.ix (.v 1) (.k (.int (2)))))), (.bin .Sub (.bin .Mult (.ix (.v 0) (.k (.int (0)))) (.ix (.v 1) (.k (.int (1))))) (.bin .Mult (.ix (.v 0) (.k (.int (1)))) (.ix (.v 1) (.k (.int (0))))))])]⟩
/-- ["s", "t", "a", "b", "c", "d", "turns", "low", "high"] -/
def fn_both_have : Fn := ⟨2, 9, [
  .set (.tup [(.tup [(.v 2), (.v 3)]), (.tup [(.v 4), (.v 5)])]) (.tup [(.v 0), (.v 1)]),
  .set (.v 6) (.tup [(.call "side" [(.v 2), (.v 3), (.v 4)]), (.call "side" [(.v 2), (.v 3), (.v 5)]), (.call "side" [(.v 4), (.v 5), (.v 2)]), (.call "side" [(.v 4), (.v 5), (.v 3)])]),
  .ife (.and (.cmp .Eq (.ix (.v 6) (.k (.int (0)))) (.k (.int (0)))) (.cmp .Eq (.ix (.v 6) (.k (.int (1)))) (.k (.int (0))))) [
    .set (.tup [(.v 2), (.v 3)]) (.ite (.cmp .Lt (.call "compared" [(.v 2), (.v 3)]) (.k (.int (0)))) (.tup [(.v 2), (.v 3)]) (.tup [(.v 3), (.v 2)])),
    .set (.tup [(.v 4), (.v 5)]) (.ite (.cmp .Lt (.call "compared" [(.v 4), (.v 5)]) (.k (.int (0)))) (.tup [(.v 4), (.v 5)]) (.tup [(.v 5), (.v 4)])),
    .set (.v 7) (.ite (.cmp .Gt (.call "compared" [(.v 2), (.v 4)]) (.k (.int (0)))) (.v 2) (.v 4)),
    .set (.v 8) (.ite (.cmp .Lt (.call "compared" [(.v 3), (.v 5)]) (.k (.int (0)))) (.v 3) (.v 5)),
    .ife (.cmp .Gt (.call "compared" [(.v 7), (.v 8)]) (.k (.int (0)))) [
      .ret (.k .non)] [],
    .ret (.ite (.cmp .Eq (.v 7) (.v 8)) (.tup [(.k (.str (s "point"))), (.v 7)]) (.tup [(.k (.str (s "part"))), (.tup [(.v 7), (.v 8)])]))] [],
  .ife (.or (.cmp .Gt (.bin .Mult (.ix (.v 6) (.k (.int (0)))) (.ix (.v 6) (.k (.int (1))))) (.k (.int (0)))) (.cmp .Gt (.bin .Mult (.ix (.v 6) (.k (.int (2)))) (.ix (.v 6) (.k (.int (3))))) (.k (.int (0))))) [
    .ret (.k .non)] [],
  .ret (.tup [(.k (.str (s "point"))), (.call "made_of" [(.call "line" [(.v 2), (.v 3)]), (.call "line" [(.v 4), (.v 5)])])])]⟩
/-- ["one", "other", "x", "y"] -/
def fn_made_of : Fn := ⟨2, 4, [
  .set (.v 2) (.bin .Sub (.bin .Mult (.ix (.v 0) (.k (.int (1)))) (.ix (.v 1) (.k (.int (2))))) (.bin .Mult (.ix (.v 0) (.k (.int (2)))) (.ix (.v 1) (.k (.int (1)))))),
  .set (.v 3) (.bin .Sub (.bin .Mult (.ix (.v 0) (.k (.int (2)))) (.ix (.v 1) (.k (.int (0))))) (.bin .Mult (.ix (.v 0) (.k (.int (0)))) (.ix (.v 1) (.k (.int (2)))))),
  .ret (.call "made" [(.v 2), (.v 3), (.bin .Sub (.bin .Mult (.ix (.v 0) (.k (.int (0)))) (.ix (.v 1) (.k (.int (1))))) (.bin .Mult (.ix (.v 0) (.k (.int (1)))) (.ix (.v 1) (.k (.int (0))))))])]⟩
/-- ["s", "t"] -/
def fn_crossing : Fn := ⟨2, 2, [
  .expr (.call "check_segment" [(.v 0)]),
  .expr (.call "check_segment" [(.v 1)]),
  .ret (.call "both_have" [(.v 0), (.v 1)])]⟩
/-- ["script", ".0", "x"] -/
def fn__law_box : Fn := ⟨1, 3, [
  .ret (.lst [(.k (.int (0))), (.k (.int (0))), (.k (.int (0))), (.lc [1, 2] (.v 2) (.v 0) [] (.blt .abs [(.blt .int [(.v 2)])]))])]⟩
/-- ["box", "m", "at", "cell", "told"] -/
def fn__law_take : Fn := ⟨2, 5, [
  .ife (.cmp .Eq (.ix (.v 0) (.k (.int (1)))) (.k (.int (0)))) [
    .set (.v 2) (.ix (.v 0) (.k (.int (2)))),
    .set (.v 3) (.k (.int (0))),
    .ife (.cmp .Lt (.v 2) (.blt .len [(.ix (.v 0) (.k (.int (3))))])) [
      .set (.v 3) (.ix (.ix (.v 0) (.k (.int (3)))) (.v 2)),
      .setIx (.v 0) (.k (.int (1))) (.ite (.cmp .GtE (.v 3) (.bin .Pow (.k (.int (10))) (.k (.int (18))))) (.k (.int (60))) (.neg (.k (.int (9)))))] [],
    .setIx (.v 0) (.k (.int (2))) (.bin .Add (.v 2) (.k (.int (1)))),
    .setIx (.v 0) (.k (.int (0))) (.v 3),
    .ife (.cmp .Eq (.ix (.v 0) (.k (.int (1)))) (.k (.int (0)))) [
      .ret (.k (.int (0)))] []] [],
  .ife (.cmp .Gt (.ix (.v 0) (.k (.int (1)))) (.k (.int (0)))) [
    .set (.v 4) (.bin .Mod (.blt .int [(.ix (.v 0) (.k (.int (0))))]) (.v 1)),
    .setIx (.v 0) (.k (.int (0))) (.bin .FloorDiv (.ix (.v 0) (.k (.int (0)))) (.v 1)),
    .setIx (.v 0) (.k (.int (1))) (.ite (.cmp .Gt (.ix (.v 0) (.k (.int (0)))) (.k (.int (0)))) (.bin .Sub (.ix (.v 0) (.k (.int (1)))) (.k (.int (1)))) (.k (.int (0)))),
    .ret (.v 4)] [],
  .setIx (.v 0) (.k (.int (1))) (.bin .Add (.ix (.v 0) (.k (.int (1)))) (.k (.int (1)))),
  .setIx (.v 0) (.k (.int (0))) (.bin .Mod (.blt .int [(.bin .Add (.bin .Mult (.ix (.v 0) (.k (.int (0)))) (.k (.int (48271)))) (.bin .Mult (.k (.int (69621))) (.bin .Add (.ix (.v 0) (.k (.int (1)))) (.k (.int (20))))))]) (.k (.int (2147483647)))),
  .ret (.bin .Mod (.bin .Mod (.blt .int [(.bin .Add (.bin .FloorDiv (.ix (.v 0) (.k (.int (0)))) (.k (.int (7)))) (.ix (.v 0) (.k (.int (0)))))]) (.k (.int (1000003)))) (.v 1))]⟩
/-- ["box", "menu"] -/
def fn__law_pick : Fn := ⟨2, 2, [
  .ret (.ix (.v 1) (.call "_law_take" [(.v 0), (.blt .len [(.v 1)])]))]⟩
/-- ["a", "b"] -/
def fn__law_common : Fn := ⟨2, 2, [
  .set (.tup [(.v 0), (.v 1)]) (.tup [(.blt .abs [(.v 0)]), (.blt .abs [(.v 1)])]),
  .whl (.cmp .Gt (.v 1) (.k (.int (0)))) [
    .set (.tup [(.v 0), (.v 1)]) (.tup [(.v 1), (.bin .Mod (.v 0) (.v 1))])],
  .ret (.v 0)]⟩
/-- ["x", "y", "w", "by"] -/
def fn__law_made : Fn := ⟨3, 4, [
  .ife (.cmp .Lt (.v 2) (.k (.int (0)))) [
    .set (.tup [(.v 0), (.v 1), (.v 2)]) (.tup [(.neg (.v 0)), (.neg (.v 1)), (.neg (.v 2))])] [],
  .set (.v 3) (.call "_law_common" [(.call "_law_common" [(.v 0), (.v 1)]), (.v 2)]),
  .ret (.tup [(.bin .FloorDiv (.v 0) (.v 3)), (.bin .FloorDiv (.v 1) (.v 3)), (.bin .FloorDiv (.v 2) (.v 3))])]⟩
/-- ["box", "far", "x", "y"] -/
def fn__law_point : Fn := ⟨2, 4, [
  .set (.tup [(.v 2), (.v 3)]) (.tup [(.bin .Sub (.call "_law_take" [(.v 0), (.bin .Add (.bin .Mult (.k (.int (2))) (.v 1)) (.k (.int (1))))]) (.v 1)), (.bin .Sub (.call "_law_take" [(.v 0), (.bin .Add (.bin .Mult (.k (.int (2))) (.v 1)) (.k (.int (1))))]) (.v 1))]),
  .ret (.ite (.cmp .Gt (.call "_law_take" [(.v 0), (.k (.int (5)))]) (.k (.int (0)))) (.tup [(.v 2), (.v 3), (.k (.int (1)))]) (.call "_law_made" [(.v 2), (.v 3), (.bin .Add (.k (.int (1))) (.call "_law_take" [(.v 0), (.k (.int (4)))]))]))]⟩
/-- ["a", "b", "c", "worth"] -/
def fn__law_side : Fn := ⟨3, 4, [
  .set (.v 3) (.bin .Sub (.bin .Mult (.bin .Sub (.bin .Mult (.ix (.v 1) (.k (.int (0)))) (.ix (.v 0) (.k (.int (2))))) (.bin .Mult (.ix (.v 0) (.k (.int (0)))) (.ix (.v 1) (.k (.int (2)))))) (.bin .Sub (.bin .Mult (.ix (.v 2) (.k (.int (1)))) (.ix (.v 0) (.k (.int (2))))) (.bin .Mult (.ix (.v 0) (.k (.int (1)))) (.ix (.v 2) (.k (.int (2))))))) (.bin .Mult (.bin .Sub (.bin .Mult (.ix (.v 1) (.k (.int (1)))) (.ix (.v 0) (.k (.int (2))))) (.bin .Mult (.ix (.v 0) (.k (.int (1)))) (.ix (.v 1) (.k (.int (2)))))) (.bin .Sub (.bin .Mult (.ix (.v 2) (.k (.int (0)))) (.ix (.v 0) (.k (.int (2))))) (.bin .Mult (.ix (.v 0) (.k (.int (0)))) (.ix (.v 2) (.k (.int (2)))))))),
  .ret (.ite (.cmp .Gt (.v 3) (.k (.int (0)))) (.k (.int (1))) (.ite (.cmp .Lt (.v 3) (.k (.int (0)))) (.neg (.k (.int (1)))) (.k (.int (0)))))]⟩
/-- ["p", "q", "k"] -/
def fn__law_compared : Fn := ⟨2, 3, [
  .for (.v 2) (.tup [(.k (.int (0))), (.k (.int (1)))]) [
    .ife (.cmp .NotEq (.bin .Mult (.ix (.v 0) (.v 2)) (.ix (.v 1) (.k (.int (2))))) (.bin .Mult (.ix (.v 1) (.v 2)) (.ix (.v 0) (.k (.int (2)))))) [
      .ret (.ite (.cmp .Lt (.bin .Mult (.ix (.v 0) (.v 2)) (.ix (.v 1) (.k (.int (2))))) (.bin .Mult (.ix (.v 1) (.v 2)) (.ix (.v 0) (.k (.int (2)))))) (.neg (.k (.int (1)))) (.k (.int (1))))] []],
  .ret (.k (.int (0)))]⟩
/-- ["a", "b", "p", "low", "high"] -/
def fn__law_lies : Fn := ⟨3, 5, [
  .ife (.cmp .NotEq (.call "_law_side" [(.v 0), (.v 1), (.v 2)]) (.k (.int (0)))) [
    .ret (.k (.bl false))] [],
  .set (.tup [(.v 3), (.v 4)]) (.ite (.cmp .LtE (.call "_law_compared" [(.v 0), (.v 1)]) (.k (.int (0)))) (.tup [(.v 0), (.v 1)]) (.tup [(.v 1), (.v 0)])),
  .ret (.and (.cmp .LtE (.call "_law_compared" [(.v 3), (.v 2)]) (.k (.int (0)))) (.cmp .LtE (.call "_law_compared" [(.v 2), (.v 4)]) (.k (.int (0)))))]⟩
/-- ["s", "t", "a", "b", "c", "d", "w", "ax", "ay", "bx", "by", "cx", "cy", "dx", "dy", "ux", "uy", "vx", "vy", "ex", "ey", "whole", "p", "q", "x", "ends", "low", "high", ".0"] -/
def fn__law_shared : Fn := ⟨2, 29, [
  .set (.tup [(.v 2), (.v 3), (.v 4), (.v 5)]) (.tup [(.ix (.v 0) (.k (.int (0)))), (.ix (.v 0) (.k (.int (1)))), (.ix (.v 1) (.k (.int (0)))), (.ix (.v 1) (.k (.int (1))))]),
  .set (.v 6) (.bin .Mult (.bin .Mult (.bin .Mult (.ix (.v 2) (.k (.int (2)))) (.ix (.v 3) (.k (.int (2))))) (.ix (.v 4) (.k (.int (2))))) (.ix (.v 5) (.k (.int (2))))),
  .set (.tup [(.v 7), (.v 8), (.v 9), (.v 10)]) (.tup [(.bin .FloorDiv (.bin .Mult (.ix (.v 2) (.k (.int (0)))) (.v 6)) (.ix (.v 2) (.k (.int (2))))), (.bin .FloorDiv (.bin .Mult (.ix (.v 2) (.k (.int (1)))) (.v 6)) (.ix (.v 2) (.k (.int (2))))), (.bin .FloorDiv (.bin .Mult (.ix (.v 3) (.k (.int (0)))) (.v 6)) (.ix (.v 3) (.k (.int (2))))), (.bin .FloorDiv (.bin .Mult (.ix (.v 3) (.k (.int (1)))) (.v 6)) (.ix (.v 3) (.k (.int (2)))))]),
  .set (.tup [(.v 11), (.v 12), (.v 13), (.v 14)]) (.tup [(.bin .FloorDiv (.bin .Mult (.ix (.v 4) (.k (.int (0)))) (.v 6)) (.ix (.v 4) (.k (.int (2))))), (.bin .FloorDiv (.bin .Mult (.ix (.v 4) (.k (.int (1)))) (.v 6)) (.ix (.v 4) (.k (.int (2))))), (.bin .FloorDiv (.bin .Mult (.ix (.v 5) (.k (.int (0)))) (.v 6)) (.ix (.v 5) (.k (.int (2))))), (.bin .FloorDiv (.bin .Mult (.ix (.v 5) (.k (.int (1)))) (.v 6)) (.ix (.v 5) (.k (.int (2)))))]),
  .set (.tup [(.v 15), (.v 16), (.v 17), (.v 18), (.v 19), (.v 20)]) (.tup [(.bin .Sub (.v 9) (.v 7)), (.bin .Sub (.v 10) (.v 8)), (.bin .Sub (.v 13) (.v 11)), (.bin .Sub (.v 14) (.v 12)), (.bin .Sub (.v 11) (.v 7)), (.bin .Sub (.v 12) (.v 8))]),
  .set (.v 21) (.bin .Sub (.bin .Mult (.v 15) (.v 18)) (.bin .Mult (.v 16) (.v 17))),
  .ife (.cmp .NotEq (.v 21) (.k (.int (0)))) [
    .set (.tup [(.v 22), (.v 23)]) (.tup [(.bin .Sub (.bin .Mult (.v 19) (.v 18)) (.bin .Mult (.v 20) (.v 17))), (.bin .Sub (.bin .Mult (.v 19) (.v 16)) (.bin .Mult (.v 20) (.v 15)))]),
    .ife (.cmp .Lt (.v 21) (.k (.int (0)))) [
      .set (.tup [(.v 21), (.v 22), (.v 23)]) (.tup [(.neg (.v 21)), (.neg (.v 22)), (.neg (.v 23))])] [],
    .ife (.or (.not (.chain .LtE .LtE (.k (.int (0))) (.v 22) (.v 21))) (.not (.chain .LtE .LtE (.k (.int (0))) (.v 23) (.v 21)))) [
      .ret (.k .non)] [],
    .ret (.tup [(.k (.str (s "point"))), (.call "_law_made" [(.bin .Add (.bin .Mult (.v 7) (.v 21)) (.bin .Mult (.v 15) (.v 22))), (.bin .Add (.bin .Mult (.v 8) (.v 21)) (.bin .Mult (.v 16) (.v 22))), (.bin .Mult (.v 6) (.v 21))])])] [],
  .ife (.cmp .NotEq (.bin .Sub (.bin .Mult (.v 19) (.v 16)) (.bin .Mult (.v 20) (.v 15))) (.k (.int (0)))) [
    .ret (.k .non)] [],
  .set (.v 25) (.lc [28, 24] (.v 24) (.tup [(.v 2), (.v 3), (.v 4), (.v 5)]) [(.and (.call "_law_lies" [(.v 2), (.v 3), (.v 24)]) (.call "_law_lies" [(.v 4), (.v 5), (.v 24)]))] (.v 24)),
  .ife (.cmp .Eq (.v 25) (.lst [])) [
    .ret (.k .non)] [],
  .set (.tup [(.v 26), (.v 27)]) (.tup [(.ix (.v 25) (.k (.int (0)))), (.ix (.v 25) (.k (.int (0))))]),
  .for (.v 24) (.v 25) [
    .set (.v 26) (.ite (.cmp .Lt (.call "_law_compared" [(.v 24), (.v 26)]) (.k (.int (0)))) (.v 24) (.v 26)),
    .set (.v 27) (.ite (.cmp .Gt (.call "_law_compared" [(.v 24), (.v 27)]) (.k (.int (0)))) (.v 24) (.v 27))],
  .ret (.ite (.cmp .Eq (.v 26) (.v 27)) (.tup [(.k (.str (s "point"))), (.v 26)]) (.tup [(.k (.str (s "part"))), (.tup [(.v 26), (.v 27)])]))]⟩
/-- ["box", "a", "b"] -/
def fn__law_segment : Fn := ⟨1, 3, [
  .set (.v 1) (.call "_law_point" [(.v 0), (.k (.int (5)))]),
  .set (.v 2) (.call "_law_point" [(.v 0), (.k (.int (5)))]),
  .ret (.ite (.cmp .NotEq (.v 1) (.v 2)) (.tup [(.v 1), (.v 2)]) (.tup [(.v 1), (.call "_law_made" [(.bin .Add (.ix (.v 1) (.k (.int (0)))) (.ix (.v 1) (.k (.int (2))))), (.ix (.v 1) (.k (.int (1)))), (.ix (.v 1) (.k (.int (2))))])]))]⟩
/-- ["script", "box", "sort", "a", "b", "far", "i", "due", "one", "other", "bad", "s", "t", ".0", "k"] -/
def fn_law : Fn := ⟨1, 15, [
  .set (.v 1) (.call "_law_box" [(.v 0)]),
  .set (.tup [(.v 11), (.v 12)]) (.tup [(.call "_law_segment" [(.v 1)]), (.call "_law_segment" [(.v 1)])]),
  .set (.v 2) (.call "_law_take" [(.v 1), (.k (.int (4)))]),
  .ife (.cmp .Eq (.v 2) (.k (.int (0)))) [
    .set (.tup [(.v 3), (.v 4)]) (.v 11),
    .set (.v 5) (.lc [13, 14] (.v 14) (.rng [(.neg (.k (.int (4)))), (.k (.int (9)))]) [] (.call "_law_made" [(.bin .Add (.bin .Mult (.bin .Mult (.ix (.v 3) (.k (.int (0)))) (.ix (.v 4) (.k (.int (2))))) (.bin .Sub (.k (.int (4))) (.v 14))) (.bin .Mult (.bin .Mult (.ix (.v 4) (.k (.int (0)))) (.ix (.v 3) (.k (.int (2))))) (.v 14))), (.bin .Add (.bin .Mult (.bin .Mult (.ix (.v 3) (.k (.int (1)))) (.ix (.v 4) (.k (.int (2))))) (.bin .Sub (.k (.int (4))) (.v 14))) (.bin .Mult (.bin .Mult (.ix (.v 4) (.k (.int (1)))) (.ix (.v 3) (.k (.int (2))))) (.v 14))), (.bin .Mult (.bin .Mult (.k (.int (4))) (.ix (.v 3) (.k (.int (2))))) (.ix (.v 4) (.k (.int (2)))))])),
    .set (.v 6) (.call "_law_take" [(.v 1), (.k (.int (13)))]),
    .set (.v 12) (.tup [(.ix (.v 5) (.v 6)), (.ix (.v 5) (.bin .Mod (.bin .Add (.bin .Add (.v 6) (.k (.int (1)))) (.call "_law_take" [(.v 1), (.k (.int (12)))])) (.k (.int (13)))))])] [],
  .ife (.and (.cmp .Eq (.v 2) (.k (.int (1)))) (.cmp .NotEq (.ix (.v 12) (.k (.int (1)))) (.ix (.v 11) (.k (.int (0)))))) [
    .set (.v 12) (.tup [(.ix (.v 11) (.k (.int (0)))), (.ix (.v 12) (.k (.int (1))))])] [],
  .set (.v 7) (.call "_law_shared" [(.v 11), (.v 12)]),
  .for (.v 8) (.tup [(.v 11), (.rv (.v 11))]) [
    .for (.v 9) (.tup [(.v 12), (.rv (.v 12))]) [
      .ife (.or (.cmp .NotEq (.blt .repr [(.call "crossing" [(.v 8), (.v 9)])]) (.blt .repr [(.v 7)])) (.cmp .NotEq (.blt .repr [(.call "crossing" [(.v 9), (.v 8)])]) (.blt .repr [(.v 7)]))) [
        .ret (.k (.bl false))] []]],
  .set (.v 10) (.call "_law_pick" [(.v 1), (.lst [(.tup [(.ix (.v 11) (.k (.int (0)))), (.ix (.v 11) (.k (.int (0))))]), (.tup [(.ix (.v 11) (.k (.int (0))))]), (.blt .list [(.v 11)]), (.bin .Add (.v 11) (.v 11)), (.k .non), (.tup [(.ix (.v 11) (.k (.int (0)))), (.k .non)])])]),
  .ife (.not (.lam "_law_refused" (.call "crossing" [(.v 10), (.v 12)]))) [
    .ret (.k (.bl false))] [],
  .ret (.lam "_law_refused" (.call "crossing" [(.v 11), (.v 10)]))]⟩
def T : Tab := ⟨[("is_number", fn_is_number), ("common", fn_common), ("made", fn_made), ("is_point", fn_is_point), ("compared", fn_compared), ("side", fn_side), ("is_segment", fn_is_segment), ("check_segment", fn_check_segment), ("line", fn_line), ("both_have", fn_both_have), ("made_of", fn_made_of), ("crossing", fn_crossing), ("_law_box", fn__law_box), ("_law_take", fn__law_take), ("_law_pick", fn__law_pick), ("_law_common", fn__law_common), ("_law_made", fn__law_made), ("_law_point", fn__law_point), ("_law_side", fn__law_side), ("_law_compared", fn__law_compared), ("_law_lies", fn__law_lies), ("_law_shared", fn__law_shared), ("_law_segment", fn__law_segment), ("law", fn_law)], [("_law_refused", ⟨[("BadShape", (.bl true))], (.bl false)⟩)], ["BadShape"]⟩
def S : Spec := ⟨[("is_number", [(s "x")]), ("common", [(s "a"), (s "b")]), ("made", [(s "x"), (s "y"), (s "w"), (s "by")]), ("is_point", [(s "x"), (s ".0"), (s "one")]), ("compared", [(s "p"), (s "q"), (s "k"), (s "one"), (s "other")]), ("side", [(s "a"), (s "b"), (s "c"), (s "worth")]), ("is_segment", [(s "x")]), ("check_segment", [(s "x")]), ("line", [(s "a"), (s "b")]), ("both_have", [(s "s"), (s "t"), (s "a"), (s "b"), (s "c"), (s "d"), (s "turns"), (s "low"), (s "high")]), ("made_of", [(s "one"), (s "other"), (s "x"), (s "y")]), ("crossing", [(s "s"), (s "t")]), ("_law_box", [(s "script"), (s ".0"), (s "x")]), ("_law_take", [(s "box"), (s "m"), (s "at"), (s "cell"), (s "told")]), ("_law_pick", [(s "box"), (s "menu")]), ("_law_common", [(s "a"), (s "b")]), ("_law_made", [(s "x"), (s "y"), (s "w"), (s "by")]), ("_law_point", [(s "box"), (s "far"), (s "x"), (s "y")]), ("_law_side", [(s "a"), (s "b"), (s "c"), (s "worth")]), ("_law_compared", [(s "p"), (s "q"), (s "k")]), ("_law_lies", [(s "a"), (s "b"), (s "p"), (s "low"), (s "high")]), ("_law_shared", [(s "s"), (s "t"), (s "a"), (s "b"), (s "c"), (s "d"), (s "w"), (s "ax"), (s "ay"), (s "bx"), (s "by"), (s "cx"), (s "cy"), (s "dx"), (s "dy"), (s "ux"), (s "uy"), (s "vx"), (s "vy"), (s "ex"), (s "ey"), (s "whole"), (s "p"), (s "q"), (s "x"), (s "ends"), (s "low"), (s "high"), (s ".0")]), ("_law_segment", [(s "box"), (s "a"), (s "b")]), ("law", [(s "script"), (s "box"), (s "sort"), (s "a"), (s "b"), (s "far"), (s "i"), (s "due"), (s "one"), (s "other"), (s "bad"), (s "s"), (s "t"), (s ".0"), (s "k")])], [("law", 205, 203)], [("_law_refused", [(s "call")])], [], ["BadShape"], ["law"]⟩


end K03
end

section
set_option linter.all false
set_option autoImplicit false
set_option maxRecDepth 20000
namespace G
/-- a point within 2 ^ n -/
structure Pn.In (n : Nat) (p : Pn) : Prop where
  pt : p.V
  sx : Sm n p.x
  sy : Sm n p.y
  sw : Sm n p.w
theorem Pn.In.ok {n : Nat} {p : Pn} (h : p.In n) (hn : n ≤ 1000) : Pn.Ok p := ⟨h.pt, h.sx.mono hn, h.sy.mono hn, h.sw.mono hn⟩
theorem Pn.In.mono {n m : Nat} {p : Pn} (h : p.In n) (hn : n ≤ m) : p.In m := ⟨h.pt, h.sx.mono hn, h.sy.mono hn, h.sw.mono hn⟩
theorem mkP_in {x y w : Int} {a b d n : Nat} [h1 : Sm a x] [h2 : Sm b y] [h3 : Sm d w] (hw : w ≠ 0) (ha : a ≤ n) (hb : b ≤ n) (hd : d ≤ n) : (mkP x y w).In n :=
  ⟨mkP_pt x y hw, (inferInstance : Sm a (m1 x y w)).mono ha, (inferInstance : Sm b (m2 x y w)).mono hb, (inferInstance : Sm d (m3 x y w)).mono hd⟩
theorem sm_le {n m : Nat} {x y : Int} [h : Sm n y] (e : x = y) (hl : n ≤ m) : Sm m x := by subst e; exact h.mono hl
theorem div_back (x : Int) {w r : Int} (h : 0 < w) : x * (w * r) / w = x * r := by
  rw [show x * (w * r) = (x * r) * w by grind]
  exact Int.mul_ediv_cancel _ (by omega)
theorem sw_a (a b x y : Pn) : sw a b x y = a.w * (b.w * x.w * y.w) := by unfold sw; grind
theorem sw_b (a b x y : Pn) : sw a b x y = b.w * (a.w * x.w * y.w) := by unfold sw; grind
theorem sw_x (a b x y : Pn) : sw a b x y = x.w * (a.w * b.w * y.w) := by unfold sw; grind
theorem sw_y (a b x y : Pn) : sw a b x y = y.w * (a.w * b.w * x.w) := by unfold sw; grind
end G
namespace K03
open G
open PySem (Str Operator CmpOp PyData)
instance : HasFn T "is_number" F.is_number := ⟨rfl⟩
instance : HasFn T "common" F.common := ⟨rfl⟩
instance : HasFn T "made" (F.made "common") := ⟨rfl⟩
instance : HasFn T "is_point" F.is_point := ⟨rfl⟩
instance : HasFn T "compared" F.compared := ⟨rfl⟩
instance : HasFn T "side" F.side := ⟨rfl⟩
instance : HasFn T "is_segment" F.is_segment := ⟨rfl⟩
instance : HasFn T "check_segment" F.check_segment := ⟨rfl⟩
instance : HasFn T "line" F.line := ⟨rfl⟩
instance : HasFn T "both_have" F.both_have := ⟨rfl⟩
instance : HasFn T "made_of" F.made_of := ⟨rfl⟩
instance : HasFn T "crossing" F.crossing := ⟨rfl⟩
instance : HasFn T "_law_box" F._law_box := ⟨rfl⟩
instance : HasFn T "_law_take" F._law_take := ⟨rfl⟩
instance : HasFn T "_law_pick" F._law_pick := ⟨rfl⟩
instance : HasFn T "_law_common" F.common := ⟨rfl⟩
instance : HasFn T "_law_made" (F.made "_law_common") := ⟨rfl⟩
instance : HasFn T "_law_point" F._law_point := ⟨rfl⟩
instance : HasFn T "_law_side" F._law_side := ⟨rfl⟩
instance : HasFn T "_law_compared" F._law_compared := ⟨rfl⟩
instance : HasFn T "_law_lies" (F.lies "_law_side" "_law_compared") := ⟨rfl⟩
--def R2 := 29; 0=segD a b; 1=segD x y; 2=a.d; 3=b.d; 4=x.d; 5=y.d; 6=D.int (sw a b x y)
--def R3 := $R2; 7=D.int (a.x * (b.w * x.w * y.w)); 8=D.int (a.y * (b.w * x.w * y.w)); 9=D.int (b.x * (a.w * x.w * y.w)); 10=D.int (b.y * (a.w * x.w * y.w))
--def R4 := $R3; 11=D.int (x.x * (a.w * b.w * y.w)); 12=D.int (x.y * (a.w * b.w * y.w)); 13=D.int (y.x * (a.w * b.w * x.w)); 14=D.int (y.y * (a.w * b.w * x.w))
--def R5 := $R4; 15=D.int (sU a b x y).1; 16=D.int (sU a b x y).2; 17=D.int (sV a b x y).1; 18=D.int (sV a b x y).2; 19=D.int (sE a b x y).1; 20=D.int (sE a b x y).2
--def R6 := $R5; 21=D.int (sWhole a b x y)
theorem shared_e (k : Nat) (c : Cells) {a b x y : Pn} (ha : a.In 40) (hb : b.In 40) (hx : x.In 40) (hy : y.In 40) (hab : a ≠ b) : callD T (k + 3) "_law_shared" [segD a b, segD x y] c = .ok (sharedR a b x y).D c := by
  haveI oa := ha.ok (by decide)
  haveI ob := hb.ok (by decide)
  haveI ox := hx.ok (by decide)
  haveI oy := hy.ok (by decide)
  obtain ⟨pa, _, _, _⟩ := ha
  obtain ⟨pb, _, _, _⟩ := hb
  obtain ⟨px, _, _, _⟩ := hx
  obtain ⟨py, _, _, _⟩ := hy
  have qa := pa.pos
  have qb := pb.pos
  have qx := px.pos
  have qy := py.pos
  refine eq_of fun Q E hQ => call_body (fn := fn__law_shared) rfl rfl ?_
  unfold fn__law_shared
  show wS (dSs _ _ [some (segD a b), some (segD x y), none, none, none, none, none, none, none, none, none, none, none, none, none, none, none, none, none, none, none, none, none, none, none, none, none, none, none] c) _
  refine seq (fun ρ' c' => ρ' = [some (segD a b), some (segD x y), some (a.d), some (b.d), some (x.d), some (y.d), none, none, none, none, none, none, none, none, none, none, none, none, none, none, none, none, none, none, none, none, none, none, none] ∧ c' = c) (fun I hI => ?_) ?_
  · simp (decide := true) only [↓ss_cons, ↓ss_nil, ↓s_set, ↓s_ret, ↓s_retN, ↓s_expr, ↓s_ife, ↓s_raise, ↓s_cnt, ↓s_brk, ↓s_pass, ↓s_setX, ↓s_for, ↓s_foS, ↓e_k, ↓e_tup, ↓e_lst, ↓e_call, ↓e_blt, ↓e_cmp, ↓e_bin, ↓e_neg, ↓e_and, ↓e_or, ↓e_not, ↓e_ite, ↓e_chain, ↓e_ix, ↓e_isi, ↓e_meth, ↓e_sl, ↓e_lam, ↓e_lc, ↓es_cons, ↓es_nil, ↓o_no, ↓b_add, ↓b_sub, ↓b_subB, ↓b_addB, ↓b_mul, ↓b_div, ↓b_mod, ↓b_pow, ↓b_addT, ↓b_mulT, ↓c_lt, ↓c_le, ↓c_gt, ↓c_ge, ↓c_isB, ↓c_isNotB, ↓c_isN, ↓c_isNotN, ↓t_abs, ↓t_int, ↓t_intB, ↓t_len, ↓t_min, ↓t_max, ↓t_tupT, ↓t_lstT, ↓i_v, ↓i_tup, ↓i_lst, ↓i_call, ↓i_ix, ↓i_sl, ↓lc_nil, ↓lc_cons, ↓w_lcB, ↓fo_nil, ↓fo_cons, ↓ts_nil, ↓ts_cons, ↓t_all, ↓t_any, ↓t_tup, ↓wI_int, ↓wR_ok, ↓v_0, ↓v_1, ↓v_2, ↓v_3, ↓v_4, ↓v_5, ↓v_6, ↓v_7, ↓v_8, ↓v_9, ↓v_10, ↓v_11, ↓v_12, ↓v_13, ↓v_14, ↓v_15, ↓v_16, ↓v_17, ↓v_18, ↓v_19, ↓v_20, ↓v_21, ↓v_22, ↓v_23, ↓v_24, ↓v_25, ↓v_26, ↓v_27, ↓v_28, ↓v_29, ↓v_30, ↓v_31, ↓as_0, ↓as_1, ↓as_2, ↓as_3, ↓as_4, ↓as_5, ↓as_6, ↓as_7, ↓as_8, ↓as_9, ↓as_10, ↓as_11, ↓as_12, ↓as_13, ↓as_14, ↓as_15, ↓as_16, ↓as_17, ↓as_18, ↓as_19, ↓as_20, ↓as_21, ↓as_22, ↓as_23, ↓as_24, ↓as_25, ↓as_26, ↓as_27, ↓as_28, ↓as_29, ↓as_30, ↓as_31, ↓as_t, ↓as_n, ↓as_c, ↓x1_0, ↓x2_0, ↓x2_1, ↓x3_0, ↓x3_1, ↓x3_2, ↓x4_0, ↓x4_1, ↓x4_2, ↓x4_3, ↓x5_0, ↓x5_1, ↓x5_2, ↓x5_3, ↓x5_4, ↓gc_id, ↓gc_bl, ↓gc_bl2, ↓gc_bl3, ↓gc_i, ↓gc_i2, ↓gc_n, ↓gc_n2, ↓gc_ex, ↓gc_ex0, ↓gc_ex2, ↓ce_ii, ↓ce_bb, ↓ce_2, ↓ce_3, ↓cn_ii, ↓cn_bb, ↓cn_2, ↓cn_3, ↓pk_bl, ↓pk_int, ↓pk_tn, ↓pk_tc, ↓pk_non, ↓nb_bl, ↓nb_int, ↓yt_non, ↓yt_bl, ↓yt_int, ↓yt_str, ↓yt_tup, ↓wp_tup, List.length_cons, List.length_nil, lim, Nat.reduceAdd, Nat.reduceLeDiff, true_and, and_true, is_ii, is_ib, is_bi, is_bb, is_tt, is_lt, is_it, is_nt, is_st, is_ni, is_si, is_ti, is_li, Bool.not_true, Bool.not_false, Bool.false_eq_true, if_true, if_false, abs_eq, Int.cast_ofNat_Int, BEq.rfl, beq_iff_eq, Int.reduceBEq, Int.reduceLT, Int.reduceLE, Int.reduceNeg, Int.reduceEq, List.all_cons, List.all_nil, id, Bool.and_true, Bool.true_and, Bool.and_self, same_nil', oc_some, oc_none, bls, wBs_some, wipe, Option.map_some, List.set_cons_zero, List.set_cons_succ, decide_true, decide_false, ↓reduceIte, decide_eq_true_eq, Bool.not_eq_true', ↓p_0, ↓p_1, ↓p_2, ↓p_len, ↓p_eq, ↓p_ne, ↓p_ty, ↓p_items, ↓e_rv, ↓rv_2, mulOk_sm]
    exact hI _ _ ⟨rfl, rfl⟩
  rintro _ c' ⟨rfl, h0⟩
  rw [h0]; clear h0 c'
  refine seq (fun ρ' c' => ρ' = [some (segD a b), some (segD x y), some (a.d), some (b.d), some (x.d), some (y.d), some (D.int (sw a b x y)), none, none, none, none, none, none, none, none, none, none, none, none, none, none, none, none, none, none, none, none, none, none] ∧ c' = c) (fun I hI => ?_) ?_
  · simp (decide := true) only [↓ss_cons, ↓ss_nil, ↓s_set, ↓s_ret, ↓s_retN, ↓s_expr, ↓s_ife, ↓s_raise, ↓s_cnt, ↓s_brk, ↓s_pass, ↓s_setX, ↓s_for, ↓s_foS, ↓e_k, ↓e_tup, ↓e_lst, ↓e_call, ↓e_blt, ↓e_cmp, ↓e_bin, ↓e_neg, ↓e_and, ↓e_or, ↓e_not, ↓e_ite, ↓e_chain, ↓e_ix, ↓e_isi, ↓e_meth, ↓e_sl, ↓e_lam, ↓e_lc, ↓es_cons, ↓es_nil, ↓o_no, ↓b_add, ↓b_sub, ↓b_subB, ↓b_addB, ↓b_mul, ↓b_div, ↓b_mod, ↓b_pow, ↓b_addT, ↓b_mulT, ↓c_lt, ↓c_le, ↓c_gt, ↓c_ge, ↓c_isB, ↓c_isNotB, ↓c_isN, ↓c_isNotN, ↓t_abs, ↓t_int, ↓t_intB, ↓t_len, ↓t_min, ↓t_max, ↓t_tupT, ↓t_lstT, ↓i_v, ↓i_tup, ↓i_lst, ↓i_call, ↓i_ix, ↓i_sl, ↓lc_nil, ↓lc_cons, ↓w_lcB, ↓fo_nil, ↓fo_cons, ↓ts_nil, ↓ts_cons, ↓t_all, ↓t_any, ↓t_tup, ↓wI_int, ↓wR_ok, ↓v_0, ↓v_1, ↓v_2, ↓v_3, ↓v_4, ↓v_5, ↓v_6, ↓v_7, ↓v_8, ↓v_9, ↓v_10, ↓v_11, ↓v_12, ↓v_13, ↓v_14, ↓v_15, ↓v_16, ↓v_17, ↓v_18, ↓v_19, ↓v_20, ↓v_21, ↓v_22, ↓v_23, ↓v_24, ↓v_25, ↓v_26, ↓v_27, ↓v_28, ↓v_29, ↓v_30, ↓v_31, ↓as_0, ↓as_1, ↓as_2, ↓as_3, ↓as_4, ↓as_5, ↓as_6, ↓as_7, ↓as_8, ↓as_9, ↓as_10, ↓as_11, ↓as_12, ↓as_13, ↓as_14, ↓as_15, ↓as_16, ↓as_17, ↓as_18, ↓as_19, ↓as_20, ↓as_21, ↓as_22, ↓as_23, ↓as_24, ↓as_25, ↓as_26, ↓as_27, ↓as_28, ↓as_29, ↓as_30, ↓as_31, ↓as_t, ↓as_n, ↓as_c, ↓x1_0, ↓x2_0, ↓x2_1, ↓x3_0, ↓x3_1, ↓x3_2, ↓x4_0, ↓x4_1, ↓x4_2, ↓x4_3, ↓x5_0, ↓x5_1, ↓x5_2, ↓x5_3, ↓x5_4, ↓gc_id, ↓gc_bl, ↓gc_bl2, ↓gc_bl3, ↓gc_i, ↓gc_i2, ↓gc_n, ↓gc_n2, ↓gc_ex, ↓gc_ex0, ↓gc_ex2, ↓ce_ii, ↓ce_bb, ↓ce_2, ↓ce_3, ↓cn_ii, ↓cn_bb, ↓cn_2, ↓cn_3, ↓pk_bl, ↓pk_int, ↓pk_tn, ↓pk_tc, ↓pk_non, ↓nb_bl, ↓nb_int, ↓yt_non, ↓yt_bl, ↓yt_int, ↓yt_str, ↓yt_tup, ↓wp_tup, List.length_cons, List.length_nil, lim, Nat.reduceAdd, Nat.reduceLeDiff, true_and, and_true, is_ii, is_ib, is_bi, is_bb, is_tt, is_lt, is_it, is_nt, is_st, is_ni, is_si, is_ti, is_li, Bool.not_true, Bool.not_false, Bool.false_eq_true, if_true, if_false, abs_eq, Int.cast_ofNat_Int, BEq.rfl, beq_iff_eq, Int.reduceBEq, Int.reduceLT, Int.reduceLE, Int.reduceNeg, Int.reduceEq, List.all_cons, List.all_nil, id, Bool.and_true, Bool.true_and, Bool.and_self, same_nil', oc_some, oc_none, bls, wBs_some, wipe, Option.map_some, List.set_cons_zero, List.set_cons_succ, decide_true, decide_false, ↓reduceIte, decide_eq_true_eq, Bool.not_eq_true', ↓p_0, ↓p_1, ↓p_2, ↓p_len, ↓p_eq, ↓p_ne, ↓p_ty, ↓p_items, ↓e_rv, ↓rv_2, mulOk_sm]
    exact hI _ _ ⟨rfl, rfl⟩
  rintro _ c' ⟨rfl, h0⟩
  rw [h0]; clear h0 c'
  haveI w1 : Sm 160 (sw a b x y) := sm_le (y := a.w * b.w * x.w * y.w) rfl (by decide)
  have la : (a.w.natAbs.log2 < 9000) = True := log2_sm (n := 40) (by decide)
  have lb : (b.w.natAbs.log2 < 9000) = True := log2_sm (n := 40) (by decide)
  have lx : (x.w.natAbs.log2 < 9000) = True := log2_sm (n := 40) (by decide)
  have ly : (y.w.natAbs.log2 < 9000) = True := log2_sm (n := 40) (by decide)
  have da : ∀ z : Int, z * sw a b x y / a.w = z * (b.w * x.w * y.w) := fun z => by rw [sw_a]; exact div_back z qa
  have db : ∀ z : Int, z * sw a b x y / b.w = z * (a.w * x.w * y.w) := fun z => by rw [sw_b]; exact div_back z qb
  have dx : ∀ z : Int, z * sw a b x y / x.w = z * (a.w * b.w * y.w) := fun z => by rw [sw_x]; exact div_back z qx
  have dy : ∀ z : Int, z * sw a b x y / y.w = z * (a.w * b.w * x.w) := fun z => by rw [sw_y]; exact div_back z qy
  refine seq (fun ρ' c' => ρ' = [some (segD a b), some (segD x y), some (a.d), some (b.d), some (x.d), some (y.d), some (D.int (sw a b x y)), some (D.int (a.x * (b.w * x.w * y.w))), some (D.int (a.y * (b.w * x.w * y.w))), some (D.int (b.x * (a.w * x.w * y.w))), some (D.int (b.y * (a.w * x.w * y.w))), none, none, none, none, none, none, none, none, none, none, none, none, none, none, none, none, none, none] ∧ c' = c) (fun I hI => ?_) ?_
  · simp (decide := true) only [↓ss_cons, ↓ss_nil, ↓s_set, ↓s_ret, ↓s_retN, ↓s_expr, ↓s_ife, ↓s_raise, ↓s_cnt, ↓s_brk, ↓s_pass, ↓s_setX, ↓s_for, ↓s_foS, ↓e_k, ↓e_tup, ↓e_lst, ↓e_call, ↓e_blt, ↓e_cmp, ↓e_bin, ↓e_neg, ↓e_and, ↓e_or, ↓e_not, ↓e_ite, ↓e_chain, ↓e_ix, ↓e_isi, ↓e_meth, ↓e_sl, ↓e_lam, ↓e_lc, ↓es_cons, ↓es_nil, ↓o_no, ↓b_add, ↓b_sub, ↓b_subB, ↓b_addB, ↓b_mul, ↓b_div, ↓b_mod, ↓b_pow, ↓b_addT, ↓b_mulT, ↓c_lt, ↓c_le, ↓c_gt, ↓c_ge, ↓c_isB, ↓c_isNotB, ↓c_isN, ↓c_isNotN, ↓t_abs, ↓t_int, ↓t_intB, ↓t_len, ↓t_min, ↓t_max, ↓t_tupT, ↓t_lstT, ↓i_v, ↓i_tup, ↓i_lst, ↓i_call, ↓i_ix, ↓i_sl, ↓lc_nil, ↓lc_cons, ↓w_lcB, ↓fo_nil, ↓fo_cons, ↓ts_nil, ↓ts_cons, ↓t_all, ↓t_any, ↓t_tup, ↓wI_int, ↓wR_ok, ↓v_0, ↓v_1, ↓v_2, ↓v_3, ↓v_4, ↓v_5, ↓v_6, ↓v_7, ↓v_8, ↓v_9, ↓v_10, ↓v_11, ↓v_12, ↓v_13, ↓v_14, ↓v_15, ↓v_16, ↓v_17, ↓v_18, ↓v_19, ↓v_20, ↓v_21, ↓v_22, ↓v_23, ↓v_24, ↓v_25, ↓v_26, ↓v_27, ↓v_28, ↓v_29, ↓v_30, ↓v_31, ↓as_0, ↓as_1, ↓as_2, ↓as_3, ↓as_4, ↓as_5, ↓as_6, ↓as_7, ↓as_8, ↓as_9, ↓as_10, ↓as_11, ↓as_12, ↓as_13, ↓as_14, ↓as_15, ↓as_16, ↓as_17, ↓as_18, ↓as_19, ↓as_20, ↓as_21, ↓as_22, ↓as_23, ↓as_24, ↓as_25, ↓as_26, ↓as_27, ↓as_28, ↓as_29, ↓as_30, ↓as_31, ↓as_t, ↓as_n, ↓as_c, ↓x1_0, ↓x2_0, ↓x2_1, ↓x3_0, ↓x3_1, ↓x3_2, ↓x4_0, ↓x4_1, ↓x4_2, ↓x4_3, ↓x5_0, ↓x5_1, ↓x5_2, ↓x5_3, ↓x5_4, ↓gc_id, ↓gc_bl, ↓gc_bl2, ↓gc_bl3, ↓gc_i, ↓gc_i2, ↓gc_n, ↓gc_n2, ↓gc_ex, ↓gc_ex0, ↓gc_ex2, ↓ce_ii, ↓ce_bb, ↓ce_2, ↓ce_3, ↓cn_ii, ↓cn_bb, ↓cn_2, ↓cn_3, ↓pk_bl, ↓pk_int, ↓pk_tn, ↓pk_tc, ↓pk_non, ↓nb_bl, ↓nb_int, ↓yt_non, ↓yt_bl, ↓yt_int, ↓yt_str, ↓yt_tup, ↓wp_tup, List.length_cons, List.length_nil, lim, Nat.reduceAdd, Nat.reduceLeDiff, true_and, and_true, is_ii, is_ib, is_bi, is_bb, is_tt, is_lt, is_it, is_nt, is_st, is_ni, is_si, is_ti, is_li, Bool.not_true, Bool.not_false, Bool.false_eq_true, if_true, if_false, abs_eq, Int.cast_ofNat_Int, BEq.rfl, beq_iff_eq, Int.reduceBEq, Int.reduceLT, Int.reduceLE, Int.reduceNeg, Int.reduceEq, List.all_cons, List.all_nil, id, Bool.and_true, Bool.true_and, Bool.and_self, same_nil', oc_some, oc_none, bls, wBs_some, wipe, Option.map_some, List.set_cons_zero, List.set_cons_succ, decide_true, decide_false, ↓reduceIte, decide_eq_true_eq, Bool.not_eq_true', ↓p_0, ↓p_1, ↓p_2, ↓p_len, ↓p_eq, ↓p_ne, ↓p_ty, ↓p_items, ↓e_rv, ↓rv_2, mulOk_sm, qa, qb, la, lb, da, db]
    exact hI _ _ ⟨rfl, rfl⟩
  rintro _ c' ⟨rfl, h0⟩
  rw [h0]; clear h0 c'
  refine seq (fun ρ' c' => ρ' = [some (segD a b), some (segD x y), some (a.d), some (b.d), some (x.d), some (y.d), some (D.int (sw a b x y)), some (D.int (a.x * (b.w * x.w * y.w))), some (D.int (a.y * (b.w * x.w * y.w))), some (D.int (b.x * (a.w * x.w * y.w))), some (D.int (b.y * (a.w * x.w * y.w))), some (D.int (x.x * (a.w * b.w * y.w))), some (D.int (x.y * (a.w * b.w * y.w))), some (D.int (y.x * (a.w * b.w * x.w))), some (D.int (y.y * (a.w * b.w * x.w))), none, none, none, none, none, none, none, none, none, none, none, none, none, none] ∧ c' = c) (fun I hI => ?_) ?_
  · simp (decide := true) only [↓ss_cons, ↓ss_nil, ↓s_set, ↓s_ret, ↓s_retN, ↓s_expr, ↓s_ife, ↓s_raise, ↓s_cnt, ↓s_brk, ↓s_pass, ↓s_setX, ↓s_for, ↓s_foS, ↓e_k, ↓e_tup, ↓e_lst, ↓e_call, ↓e_blt, ↓e_cmp, ↓e_bin, ↓e_neg, ↓e_and, ↓e_or, ↓e_not, ↓e_ite, ↓e_chain, ↓e_ix, ↓e_isi, ↓e_meth, ↓e_sl, ↓e_lam, ↓e_lc, ↓es_cons, ↓es_nil, ↓o_no, ↓b_add, ↓b_sub, ↓b_subB, ↓b_addB, ↓b_mul, ↓b_div, ↓b_mod, ↓b_pow, ↓b_addT, ↓b_mulT, ↓c_lt, ↓c_le, ↓c_gt, ↓c_ge, ↓c_isB, ↓c_isNotB, ↓c_isN, ↓c_isNotN, ↓t_abs, ↓t_int, ↓t_intB, ↓t_len, ↓t_min, ↓t_max, ↓t_tupT, ↓t_lstT, ↓i_v, ↓i_tup, ↓i_lst, ↓i_call, ↓i_ix, ↓i_sl, ↓lc_nil, ↓lc_cons, ↓w_lcB, ↓fo_nil, ↓fo_cons, ↓ts_nil, ↓ts_cons, ↓t_all, ↓t_any, ↓t_tup, ↓wI_int, ↓wR_ok, ↓v_0, ↓v_1, ↓v_2, ↓v_3, ↓v_4, ↓v_5, ↓v_6, ↓v_7, ↓v_8, ↓v_9, ↓v_10, ↓v_11, ↓v_12, ↓v_13, ↓v_14, ↓v_15, ↓v_16, ↓v_17, ↓v_18, ↓v_19, ↓v_20, ↓v_21, ↓v_22, ↓v_23, ↓v_24, ↓v_25, ↓v_26, ↓v_27, ↓v_28, ↓v_29, ↓v_30, ↓v_31, ↓as_0, ↓as_1, ↓as_2, ↓as_3, ↓as_4, ↓as_5, ↓as_6, ↓as_7, ↓as_8, ↓as_9, ↓as_10, ↓as_11, ↓as_12, ↓as_13, ↓as_14, ↓as_15, ↓as_16, ↓as_17, ↓as_18, ↓as_19, ↓as_20, ↓as_21, ↓as_22, ↓as_23, ↓as_24, ↓as_25, ↓as_26, ↓as_27, ↓as_28, ↓as_29, ↓as_30, ↓as_31, ↓as_t, ↓as_n, ↓as_c, ↓x1_0, ↓x2_0, ↓x2_1, ↓x3_0, ↓x3_1, ↓x3_2, ↓x4_0, ↓x4_1, ↓x4_2, ↓x4_3, ↓x5_0, ↓x5_1, ↓x5_2, ↓x5_3, ↓x5_4, ↓gc_id, ↓gc_bl, ↓gc_bl2, ↓gc_bl3, ↓gc_i, ↓gc_i2, ↓gc_n, ↓gc_n2, ↓gc_ex, ↓gc_ex0, ↓gc_ex2, ↓ce_ii, ↓ce_bb, ↓ce_2, ↓ce_3, ↓cn_ii, ↓cn_bb, ↓cn_2, ↓cn_3, ↓pk_bl, ↓pk_int, ↓pk_tn, ↓pk_tc, ↓pk_non, ↓nb_bl, ↓nb_int, ↓yt_non, ↓yt_bl, ↓yt_int, ↓yt_str, ↓yt_tup, ↓wp_tup, List.length_cons, List.length_nil, lim, Nat.reduceAdd, Nat.reduceLeDiff, true_and, and_true, is_ii, is_ib, is_bi, is_bb, is_tt, is_lt, is_it, is_nt, is_st, is_ni, is_si, is_ti, is_li, Bool.not_true, Bool.not_false, Bool.false_eq_true, if_true, if_false, abs_eq, Int.cast_ofNat_Int, BEq.rfl, beq_iff_eq, Int.reduceBEq, Int.reduceLT, Int.reduceLE, Int.reduceNeg, Int.reduceEq, List.all_cons, List.all_nil, id, Bool.and_true, Bool.true_and, Bool.and_self, same_nil', oc_some, oc_none, bls, wBs_some, wipe, Option.map_some, List.set_cons_zero, List.set_cons_succ, decide_true, decide_false, ↓reduceIte, decide_eq_true_eq, Bool.not_eq_true', ↓p_0, ↓p_1, ↓p_2, ↓p_len, ↓p_eq, ↓p_ne, ↓p_ty, ↓p_items, ↓e_rv, ↓rv_2, mulOk_sm, qx, qy, lx, ly, dx, dy]
    exact hI _ _ ⟨rfl, rfl⟩
  rintro _ c' ⟨rfl, h0⟩
  rw [h0]; clear h0 c'
  refine seq (fun ρ' c' => ρ' = [some (segD a b), some (segD x y), some (a.d), some (b.d), some (x.d), some (y.d), some (D.int (sw a b x y)), some (D.int (a.x * (b.w * x.w * y.w))), some (D.int (a.y * (b.w * x.w * y.w))), some (D.int (b.x * (a.w * x.w * y.w))), some (D.int (b.y * (a.w * x.w * y.w))), some (D.int (x.x * (a.w * b.w * y.w))), some (D.int (x.y * (a.w * b.w * y.w))), some (D.int (y.x * (a.w * b.w * x.w))), some (D.int (y.y * (a.w * b.w * x.w))), some (D.int (sU a b x y).1), some (D.int (sU a b x y).2), some (D.int (sV a b x y).1), some (D.int (sV a b x y).2), some (D.int (sE a b x y).1), some (D.int (sE a b x y).2), none, none, none, none, none, none, none, none] ∧ c' = c) (fun I hI => ?_) ?_
  · simp (decide := true) only [↓ss_cons, ↓ss_nil, ↓s_set, ↓s_ret, ↓s_retN, ↓s_expr, ↓s_ife, ↓s_raise, ↓s_cnt, ↓s_brk, ↓s_pass, ↓s_setX, ↓s_for, ↓s_foS, ↓e_k, ↓e_tup, ↓e_lst, ↓e_call, ↓e_blt, ↓e_cmp, ↓e_bin, ↓e_neg, ↓e_and, ↓e_or, ↓e_not, ↓e_ite, ↓e_chain, ↓e_ix, ↓e_isi, ↓e_meth, ↓e_sl, ↓e_lam, ↓e_lc, ↓es_cons, ↓es_nil, ↓o_no, ↓b_add, ↓b_sub, ↓b_subB, ↓b_addB, ↓b_mul, ↓b_div, ↓b_mod, ↓b_pow, ↓b_addT, ↓b_mulT, ↓c_lt, ↓c_le, ↓c_gt, ↓c_ge, ↓c_isB, ↓c_isNotB, ↓c_isN, ↓c_isNotN, ↓t_abs, ↓t_int, ↓t_intB, ↓t_len, ↓t_min, ↓t_max, ↓t_tupT, ↓t_lstT, ↓i_v, ↓i_tup, ↓i_lst, ↓i_call, ↓i_ix, ↓i_sl, ↓lc_nil, ↓lc_cons, ↓w_lcB, ↓fo_nil, ↓fo_cons, ↓ts_nil, ↓ts_cons, ↓t_all, ↓t_any, ↓t_tup, ↓wI_int, ↓wR_ok, ↓v_0, ↓v_1, ↓v_2, ↓v_3, ↓v_4, ↓v_5, ↓v_6, ↓v_7, ↓v_8, ↓v_9, ↓v_10, ↓v_11, ↓v_12, ↓v_13, ↓v_14, ↓v_15, ↓v_16, ↓v_17, ↓v_18, ↓v_19, ↓v_20, ↓v_21, ↓v_22, ↓v_23, ↓v_24, ↓v_25, ↓v_26, ↓v_27, ↓v_28, ↓v_29, ↓v_30, ↓v_31, ↓as_0, ↓as_1, ↓as_2, ↓as_3, ↓as_4, ↓as_5, ↓as_6, ↓as_7, ↓as_8, ↓as_9, ↓as_10, ↓as_11, ↓as_12, ↓as_13, ↓as_14, ↓as_15, ↓as_16, ↓as_17, ↓as_18, ↓as_19, ↓as_20, ↓as_21, ↓as_22, ↓as_23, ↓as_24, ↓as_25, ↓as_26, ↓as_27, ↓as_28, ↓as_29, ↓as_30, ↓as_31, ↓as_t, ↓as_n, ↓as_c, ↓x1_0, ↓x2_0, ↓x2_1, ↓x3_0, ↓x3_1, ↓x3_2, ↓x4_0, ↓x4_1, ↓x4_2, ↓x4_3, ↓x5_0, ↓x5_1, ↓x5_2, ↓x5_3, ↓x5_4, ↓gc_id, ↓gc_bl, ↓gc_bl2, ↓gc_bl3, ↓gc_i, ↓gc_i2, ↓gc_n, ↓gc_n2, ↓gc_ex, ↓gc_ex0, ↓gc_ex2, ↓ce_ii, ↓ce_bb, ↓ce_2, ↓ce_3, ↓cn_ii, ↓cn_bb, ↓cn_2, ↓cn_3, ↓pk_bl, ↓pk_int, ↓pk_tn, ↓pk_tc, ↓pk_non, ↓nb_bl, ↓nb_int, ↓yt_non, ↓yt_bl, ↓yt_int, ↓yt_str, ↓yt_tup, ↓wp_tup, List.length_cons, List.length_nil, lim, Nat.reduceAdd, Nat.reduceLeDiff, true_and, and_true, is_ii, is_ib, is_bi, is_bb, is_tt, is_lt, is_it, is_nt, is_st, is_ni, is_si, is_ti, is_li, Bool.not_true, Bool.not_false, Bool.false_eq_true, if_true, if_false, abs_eq, Int.cast_ofNat_Int, BEq.rfl, beq_iff_eq, Int.reduceBEq, Int.reduceLT, Int.reduceLE, Int.reduceNeg, Int.reduceEq, List.all_cons, List.all_nil, id, Bool.and_true, Bool.true_and, Bool.and_self, same_nil', oc_some, oc_none, bls, wBs_some, wipe, Option.map_some, List.set_cons_zero, List.set_cons_succ, decide_true, decide_false, ↓reduceIte, decide_eq_true_eq, Bool.not_eq_true', ↓p_0, ↓p_1, ↓p_2, ↓p_len, ↓p_eq, ↓p_ne, ↓p_ty, ↓p_items, ↓e_rv, ↓rv_2, mulOk_sm]
    exact hI _ _ ⟨rfl, rfl⟩
  rintro _ c' ⟨rfl, h0⟩
  rw [h0]; clear h0 c'
  haveI u1 : Sm 170 (sU a b x y).1 := sm_le (y := b.x * (a.w * x.w * y.w) - a.x * (b.w * x.w * y.w)) rfl (by decide)
  haveI u2 : Sm 170 (sU a b x y).2 := sm_le (y := b.y * (a.w * x.w * y.w) - a.y * (b.w * x.w * y.w)) rfl (by decide)
  haveI v1 : Sm 170 (sV a b x y).1 := sm_le (y := y.x * (a.w * b.w * x.w) - x.x * (a.w * b.w * y.w)) rfl (by decide)
  haveI v2 : Sm 170 (sV a b x y).2 := sm_le (y := y.y * (a.w * b.w * x.w) - x.y * (a.w * b.w * y.w)) rfl (by decide)
  haveI e1 : Sm 170 (sE a b x y).1 := sm_le (y := x.x * (a.w * b.w * y.w) - a.x * (b.w * x.w * y.w)) rfl (by decide)
  haveI e2 : Sm 170 (sE a b x y).2 := sm_le (y := x.y * (a.w * b.w * y.w) - a.y * (b.w * x.w * y.w)) rfl (by decide)
  refine seq (fun ρ' c' => ρ' = [some (segD a b), some (segD x y), some (a.d), some (b.d), some (x.d), some (y.d), some (D.int (sw a b x y)), some (D.int (a.x * (b.w * x.w * y.w))), some (D.int (a.y * (b.w * x.w * y.w))), some (D.int (b.x * (a.w * x.w * y.w))), some (D.int (b.y * (a.w * x.w * y.w))), some (D.int (x.x * (a.w * b.w * y.w))), some (D.int (x.y * (a.w * b.w * y.w))), some (D.int (y.x * (a.w * b.w * x.w))), some (D.int (y.y * (a.w * b.w * x.w))), some (D.int (sU a b x y).1), some (D.int (sU a b x y).2), some (D.int (sV a b x y).1), some (D.int (sV a b x y).2), some (D.int (sE a b x y).1), some (D.int (sE a b x y).2), some (D.int (sWhole a b x y)), none, none, none, none, none, none, none] ∧ c' = c) (fun I hI => ?_) ?_
  · simp (decide := true) only [↓ss_cons, ↓ss_nil, ↓s_set, ↓s_ret, ↓s_retN, ↓s_expr, ↓s_ife, ↓s_raise, ↓s_cnt, ↓s_brk, ↓s_pass, ↓s_setX, ↓s_for, ↓s_foS, ↓e_k, ↓e_tup, ↓e_lst, ↓e_call, ↓e_blt, ↓e_cmp, ↓e_bin, ↓e_neg, ↓e_and, ↓e_or, ↓e_not, ↓e_ite, ↓e_chain, ↓e_ix, ↓e_isi, ↓e_meth, ↓e_sl, ↓e_lam, ↓e_lc, ↓es_cons, ↓es_nil, ↓o_no, ↓b_add, ↓b_sub, ↓b_subB, ↓b_addB, ↓b_mul, ↓b_div, ↓b_mod, ↓b_pow, ↓b_addT, ↓b_mulT, ↓c_lt, ↓c_le, ↓c_gt, ↓c_ge, ↓c_isB, ↓c_isNotB, ↓c_isN, ↓c_isNotN, ↓t_abs, ↓t_int, ↓t_intB, ↓t_len, ↓t_min, ↓t_max, ↓t_tupT, ↓t_lstT, ↓i_v, ↓i_tup, ↓i_lst, ↓i_call, ↓i_ix, ↓i_sl, ↓lc_nil, ↓lc_cons, ↓w_lcB, ↓fo_nil, ↓fo_cons, ↓ts_nil, ↓ts_cons, ↓t_all, ↓t_any, ↓t_tup, ↓wI_int, ↓wR_ok, ↓v_0, ↓v_1, ↓v_2, ↓v_3, ↓v_4, ↓v_5, ↓v_6, ↓v_7, ↓v_8, ↓v_9, ↓v_10, ↓v_11, ↓v_12, ↓v_13, ↓v_14, ↓v_15, ↓v_16, ↓v_17, ↓v_18, ↓v_19, ↓v_20, ↓v_21, ↓v_22, ↓v_23, ↓v_24, ↓v_25, ↓v_26, ↓v_27, ↓v_28, ↓v_29, ↓v_30, ↓v_31, ↓as_0, ↓as_1, ↓as_2, ↓as_3, ↓as_4, ↓as_5, ↓as_6, ↓as_7, ↓as_8, ↓as_9, ↓as_10, ↓as_11, ↓as_12, ↓as_13, ↓as_14, ↓as_15, ↓as_16, ↓as_17, ↓as_18, ↓as_19, ↓as_20, ↓as_21, ↓as_22, ↓as_23, ↓as_24, ↓as_25, ↓as_26, ↓as_27, ↓as_28, ↓as_29, ↓as_30, ↓as_31, ↓as_t, ↓as_n, ↓as_c, ↓x1_0, ↓x2_0, ↓x2_1, ↓x3_0, ↓x3_1, ↓x3_2, ↓x4_0, ↓x4_1, ↓x4_2, ↓x4_3, ↓x5_0, ↓x5_1, ↓x5_2, ↓x5_3, ↓x5_4, ↓gc_id, ↓gc_bl, ↓gc_bl2, ↓gc_bl3, ↓gc_i, ↓gc_i2, ↓gc_n, ↓gc_n2, ↓gc_ex, ↓gc_ex0, ↓gc_ex2, ↓ce_ii, ↓ce_bb, ↓ce_2, ↓ce_3, ↓cn_ii, ↓cn_bb, ↓cn_2, ↓cn_3, ↓pk_bl, ↓pk_int, ↓pk_tn, ↓pk_tc, ↓pk_non, ↓nb_bl, ↓nb_int, ↓yt_non, ↓yt_bl, ↓yt_int, ↓yt_str, ↓yt_tup, ↓wp_tup, List.length_cons, List.length_nil, lim, Nat.reduceAdd, Nat.reduceLeDiff, true_and, and_true, is_ii, is_ib, is_bi, is_bb, is_tt, is_lt, is_it, is_nt, is_st, is_ni, is_si, is_ti, is_li, Bool.not_true, Bool.not_false, Bool.false_eq_true, if_true, if_false, abs_eq, Int.cast_ofNat_Int, BEq.rfl, beq_iff_eq, Int.reduceBEq, Int.reduceLT, Int.reduceLE, Int.reduceNeg, Int.reduceEq, List.all_cons, List.all_nil, id, Bool.and_true, Bool.true_and, Bool.and_self, same_nil', oc_some, oc_none, bls, wBs_some, wipe, Option.map_some, List.set_cons_zero, List.set_cons_succ, decide_true, decide_false, ↓reduceIte, decide_eq_true_eq, Bool.not_eq_true', ↓p_0, ↓p_1, ↓p_2, ↓p_len, ↓p_eq, ↓p_ne, ↓p_ty, ↓p_items, ↓e_rv, ↓rv_2, mulOk_sm]
    exact hI _ _ ⟨rfl, rfl⟩
  rintro _ c' ⟨rfl, h0⟩
  rw [h0]; clear h0 c'
  haveI z1 : Sm 350 (sWhole a b x y) := sm_le (y := (sU a b x y).1 * (sV a b x y).2 - (sU a b x y).2 * (sV a b x y).1) rfl (by decide)
  haveI z2 : Sm 350 (sP a b x y) := sm_le (y := (sE a b x y).1 * (sV a b x y).2 - (sE a b x y).2 * (sV a b x y).1) rfl (by decide)
  haveI z3 : Sm 350 (sQ a b x y) := sm_le (y := (sE a b x y).1 * (sU a b x y).2 - (sE a b x y).2 * (sU a b x y).1) rfl (by decide)
  haveI w2 : Sm 170 (a.x * (b.w * x.w * y.w)) := Sm.mono inferInstance (by decide)
  haveI w3 : Sm 170 (a.y * (b.w * x.w * y.w)) := Sm.mono inferInstance (by decide)
  have eP : (sE a b x y).1 * (sV a b x y).2 - (sE a b x y).2 * (sV a b x y).1 = sP a b x y := rfl
  have eQ : (sE a b x y).1 * (sU a b x y).2 - (sE a b x y).2 * (sU a b x y).1 = sQ a b x y := rfl
  have hsw := sw_pos pa pb px py
  unfold sharedR at hQ
  by_cases hw : sWhole a b x y = 0
  · rw [if_neg (by simpa using hw)] at hQ
    have hw' : (sWhole a b x y == 0) = true := by simpa using hw
    refine seq (fun ρ' c' => ρ' = [some (segD a b), some (segD x y), some (a.d), some (b.d), some (x.d), some (y.d), some (D.int (sw a b x y)), some (D.int (a.x * (b.w * x.w * y.w))), some (D.int (a.y * (b.w * x.w * y.w))), some (D.int (b.x * (a.w * x.w * y.w))), some (D.int (b.y * (a.w * x.w * y.w))), some (D.int (x.x * (a.w * b.w * y.w))), some (D.int (x.y * (a.w * b.w * y.w))), some (D.int (y.x * (a.w * b.w * x.w))), some (D.int (y.y * (a.w * b.w * x.w))), some (D.int (sU a b x y).1), some (D.int (sU a b x y).2), some (D.int (sV a b x y).1), some (D.int (sV a b x y).2), some (D.int (sE a b x y).1), some (D.int (sE a b x y).2), some (D.int (sWhole a b x y)), none, none, none, none, none, none, none] ∧ c' = c) (fun I hI => ?_) ?_
    · rw [s_ife]
      simp (decide := true) only [↓e_cmp, ↓v_21, ↓e_k, ↓cn_ii, ↓pk_bl, hw', Bool.not_true, Bool.false_eq_true, if_false, ↓ss_nil]
      exact hI _ _ ⟨rfl, rfl⟩
    rintro _ c' ⟨rfl, h0⟩
    rw [h0]; clear h0 c'
    by_cases hq : sQ a b x y = 0
    · rw [if_neg (by simpa using hq)] at hQ
      have hq' : (sQ a b x y == 0) = true := by simpa using hq
      refine seq (fun ρ' c' => ρ' = [some (segD a b), some (segD x y), some (a.d), some (b.d), some (x.d), some (y.d), some (D.int (sw a b x y)), some (D.int (a.x * (b.w * x.w * y.w))), some (D.int (a.y * (b.w * x.w * y.w))), some (D.int (b.x * (a.w * x.w * y.w))), some (D.int (b.y * (a.w * x.w * y.w))), some (D.int (x.x * (a.w * b.w * y.w))), some (D.int (x.y * (a.w * b.w * y.w))), some (D.int (y.x * (a.w * b.w * x.w))), some (D.int (y.y * (a.w * b.w * x.w))), some (D.int (sU a b x y).1), some (D.int (sU a b x y).2), some (D.int (sV a b x y).1), some (D.int (sV a b x y).2), some (D.int (sE a b x y).1), some (D.int (sE a b x y).2), some (D.int (sWhole a b x y)), none, none, none, none, none, none, none] ∧ c' = c) (fun I hI => ?_) ?_
      · simp (decide := true) only [↓ss_cons, ↓ss_nil, ↓s_set, ↓s_ret, ↓s_retN, ↓s_expr, ↓s_ife, ↓s_raise, ↓s_cnt, ↓s_brk, ↓s_pass, ↓s_setX, ↓s_for, ↓s_foS, ↓e_k, ↓e_tup, ↓e_lst, ↓e_call, ↓e_blt, ↓e_cmp, ↓e_bin, ↓e_neg, ↓e_and, ↓e_or, ↓e_not, ↓e_ite, ↓e_chain, ↓e_ix, ↓e_isi, ↓e_meth, ↓e_sl, ↓e_lam, ↓e_lc, ↓es_cons, ↓es_nil, ↓o_no, ↓b_add, ↓b_sub, ↓b_subB, ↓b_addB, ↓b_mul, ↓b_div, ↓b_mod, ↓b_pow, ↓b_addT, ↓b_mulT, ↓c_lt, ↓c_le, ↓c_gt, ↓c_ge, ↓c_isB, ↓c_isNotB, ↓c_isN, ↓c_isNotN, ↓t_abs, ↓t_int, ↓t_intB, ↓t_len, ↓t_min, ↓t_max, ↓t_tupT, ↓t_lstT, ↓i_v, ↓i_tup, ↓i_lst, ↓i_call, ↓i_ix, ↓i_sl, ↓lc_nil, ↓lc_cons, ↓w_lcB, ↓fo_nil, ↓fo_cons, ↓ts_nil, ↓ts_cons, ↓t_all, ↓t_any, ↓t_tup, ↓wI_int, ↓wR_ok, ↓v_0, ↓v_1, ↓v_2, ↓v_3, ↓v_4, ↓v_5, ↓v_6, ↓v_7, ↓v_8, ↓v_9, ↓v_10, ↓v_11, ↓v_12, ↓v_13, ↓v_14, ↓v_15, ↓v_16, ↓v_17, ↓v_18, ↓v_19, ↓v_20, ↓v_21, ↓v_22, ↓v_23, ↓v_24, ↓v_25, ↓v_26, ↓v_27, ↓v_28, ↓v_29, ↓v_30, ↓v_31, ↓as_0, ↓as_1, ↓as_2, ↓as_3, ↓as_4, ↓as_5, ↓as_6, ↓as_7, ↓as_8, ↓as_9, ↓as_10, ↓as_11, ↓as_12, ↓as_13, ↓as_14, ↓as_15, ↓as_16, ↓as_17, ↓as_18, ↓as_19, ↓as_20, ↓as_21, ↓as_22, ↓as_23, ↓as_24, ↓as_25, ↓as_26, ↓as_27, ↓as_28, ↓as_29, ↓as_30, ↓as_31, ↓as_t, ↓as_n, ↓as_c, ↓x1_0, ↓x2_0, ↓x2_1, ↓x3_0, ↓x3_1, ↓x3_2, ↓x4_0, ↓x4_1, ↓x4_2, ↓x4_3, ↓x5_0, ↓x5_1, ↓x5_2, ↓x5_3, ↓x5_4, ↓gc_id, ↓gc_bl, ↓gc_bl2, ↓gc_bl3, ↓gc_i, ↓gc_i2, ↓gc_n, ↓gc_n2, ↓gc_ex, ↓gc_ex0, ↓gc_ex2, ↓ce_ii, ↓ce_bb, ↓ce_2, ↓ce_3, ↓cn_ii, ↓cn_bb, ↓cn_2, ↓cn_3, ↓pk_bl, ↓pk_int, ↓pk_tn, ↓pk_tc, ↓pk_non, ↓nb_bl, ↓nb_int, ↓yt_non, ↓yt_bl, ↓yt_int, ↓yt_str, ↓yt_tup, ↓wp_tup, List.length_cons, List.length_nil, lim, Nat.reduceAdd, Nat.reduceLeDiff, true_and, and_true, is_ii, is_ib, is_bi, is_bb, is_tt, is_lt, is_it, is_nt, is_st, is_ni, is_si, is_ti, is_li, Bool.not_true, Bool.not_false, Bool.false_eq_true, if_true, if_false, abs_eq, Int.cast_ofNat_Int, BEq.rfl, beq_iff_eq, Int.reduceBEq, Int.reduceLT, Int.reduceLE, Int.reduceNeg, Int.reduceEq, List.all_cons, List.all_nil, id, Bool.and_true, Bool.true_and, Bool.and_self, same_nil', oc_some, oc_none, bls, wBs_some, wipe, Option.map_some, List.set_cons_zero, List.set_cons_succ, decide_true, decide_false, ↓reduceIte, decide_eq_true_eq, Bool.not_eq_true', ↓p_0, ↓p_1, ↓p_2, ↓p_len, ↓p_eq, ↓p_ne, ↓p_ty, ↓p_items, ↓e_rv, ↓rv_2, mulOk_sm, eQ, hq']
        exact hI _ _ ⟨rfl, rfl⟩
      rintro _ c' ⟨rfl, h0⟩
      rw [h0]; clear h0 c'
      refine seq (fun ρ' c' => ρ' = [some (segD a b), some (segD x y), some (a.d), some (b.d), some (x.d), some (y.d), some (D.int (sw a b x y)), some (D.int (a.x * (b.w * x.w * y.w))), some (D.int (a.y * (b.w * x.w * y.w))), some (D.int (b.x * (a.w * x.w * y.w))), some (D.int (b.y * (a.w * x.w * y.w))), some (D.int (x.x * (a.w * b.w * y.w))), some (D.int (x.y * (a.w * b.w * y.w))), some (D.int (y.x * (a.w * b.w * x.w))), some (D.int (y.y * (a.w * b.w * x.w))), some (D.int (sU a b x y).1), some (D.int (sU a b x y).2), some (D.int (sV a b x y).1), some (D.int (sV a b x y).2), some (D.int (sE a b x y).1), some (D.int (sE a b x y).2), some (D.int (sWhole a b x y)), none, none, none, some (D.ref c.length), none, none, none] ∧ c' = c ++ [.lst ((endsP a b x y).map Pn.d)]) (fun I hI => ?_) ?_
      · rw [s_set, e_lc, i_tup]
        simp (decide := true) only [↓ss_cons, ↓ss_nil, ↓s_set, ↓s_ret, ↓s_retN, ↓s_expr, ↓s_ife, ↓s_raise, ↓s_cnt, ↓s_brk, ↓s_pass, ↓s_setX, ↓s_for, ↓s_foS, ↓e_k, ↓e_tup, ↓e_lst, ↓e_call, ↓e_blt, ↓e_cmp, ↓e_bin, ↓e_neg, ↓e_and, ↓e_or, ↓e_not, ↓e_ite, ↓e_chain, ↓e_ix, ↓e_isi, ↓e_meth, ↓e_sl, ↓e_lam, ↓e_lc, ↓es_cons, ↓es_nil, ↓o_no, ↓b_add, ↓b_sub, ↓b_subB, ↓b_addB, ↓b_mul, ↓b_div, ↓b_mod, ↓b_pow, ↓b_addT, ↓b_mulT, ↓c_lt, ↓c_le, ↓c_gt, ↓c_ge, ↓c_isB, ↓c_isNotB, ↓c_isN, ↓c_isNotN, ↓t_abs, ↓t_int, ↓t_intB, ↓t_len, ↓t_min, ↓t_max, ↓t_tupT, ↓t_lstT, ↓i_v, ↓i_tup, ↓i_lst, ↓i_call, ↓i_ix, ↓i_sl, ↓w_lcB, ↓ts_nil, ↓ts_cons, ↓t_all, ↓t_any, ↓t_tup, ↓wI_int, ↓wR_ok, ↓v_0, ↓v_1, ↓v_2, ↓v_3, ↓v_4, ↓v_5, ↓v_6, ↓v_7, ↓v_8, ↓v_9, ↓v_10, ↓v_11, ↓v_12, ↓v_13, ↓v_14, ↓v_15, ↓v_16, ↓v_17, ↓v_18, ↓v_19, ↓v_20, ↓v_21, ↓v_22, ↓v_23, ↓v_24, ↓v_25, ↓v_26, ↓v_27, ↓v_28, ↓v_29, ↓v_30, ↓v_31, ↓as_0, ↓as_1, ↓as_2, ↓as_3, ↓as_4, ↓as_5, ↓as_6, ↓as_7, ↓as_8, ↓as_9, ↓as_10, ↓as_11, ↓as_12, ↓as_13, ↓as_14, ↓as_15, ↓as_16, ↓as_17, ↓as_18, ↓as_19, ↓as_20, ↓as_21, ↓as_22, ↓as_23, ↓as_24, ↓as_25, ↓as_26, ↓as_27, ↓as_28, ↓as_29, ↓as_30, ↓as_31, ↓as_t, ↓as_n, ↓as_c, ↓x1_0, ↓x2_0, ↓x2_1, ↓x3_0, ↓x3_1, ↓x3_2, ↓x4_0, ↓x4_1, ↓x4_2, ↓x4_3, ↓x5_0, ↓x5_1, ↓x5_2, ↓x5_3, ↓x5_4, ↓gc_id, ↓gc_bl, ↓gc_bl2, ↓gc_bl3, ↓gc_i, ↓gc_i2, ↓gc_n, ↓gc_n2, ↓gc_ex, ↓gc_ex0, ↓gc_ex2, ↓ce_ii, ↓ce_bb, ↓ce_2, ↓ce_3, ↓cn_ii, ↓cn_bb, ↓cn_2, ↓cn_3, ↓pk_bl, ↓pk_int, ↓pk_tn, ↓pk_tc, ↓pk_non, ↓nb_bl, ↓nb_int, ↓yt_non, ↓yt_bl, ↓yt_int, ↓yt_str, ↓yt_tup, ↓wp_tup, List.length_cons, List.length_nil, lim, Nat.reduceAdd, Nat.reduceLeDiff, true_and, and_true, is_ii, is_ib, is_bi, is_bb, is_tt, is_lt, is_it, is_nt, is_st, is_ni, is_si, is_ti, is_li, Bool.not_true, Bool.not_false, Bool.false_eq_true, if_true, if_false, abs_eq, Int.cast_ofNat_Int, BEq.rfl, beq_iff_eq, Int.reduceBEq, Int.reduceLT, Int.reduceLE, Int.reduceNeg, Int.reduceEq, List.all_cons, List.all_nil, id, Bool.and_true, Bool.true_and, Bool.and_self, same_nil', oc_some, oc_none, bls, wBs_some, wipe, Option.map_some, List.set_cons_zero, List.set_cons_succ, decide_true, decide_false, ↓reduceIte, decide_eq_true_eq, Bool.not_eq_true', ↓p_0, ↓p_1, ↓p_2, ↓p_len, ↓p_eq, ↓p_ne, ↓p_ty, ↓p_items, ↓e_rv, ↓rv_2, mulOk_sm]
        show wR (lcGo _ _ ([a, b, x, y].map Pn.d) c) _ _
        refine go_lcF Pn.d (goodP a b x y) Pn.d (fun z hz => ?_) ?_
        · haveI : Pn.Ok z := four_mem (P := Pn.Ok) oa ob ox oy z hz
          rw [w_lcB]
          unfold goodP
          by_cases g1 : liesP a b z = true
          · by_cases g2 : liesP x y z = true
            · simp (decide := true) only [↓ss_cons, ↓ss_nil, ↓s_set, ↓s_ret, ↓s_retN, ↓s_expr, ↓s_ife, ↓s_raise, ↓s_cnt, ↓s_brk, ↓s_pass, ↓s_setX, ↓s_for, ↓s_foS, ↓e_k, ↓e_tup, ↓e_lst, ↓e_call, ↓e_blt, ↓e_cmp, ↓e_bin, ↓e_neg, ↓e_and, ↓e_or, ↓e_not, ↓e_ite, ↓e_chain, ↓e_ix, ↓e_isi, ↓e_meth, ↓e_sl, ↓e_lam, ↓e_lc, ↓es_cons, ↓es_nil, ↓o_no, ↓b_add, ↓b_sub, ↓b_subB, ↓b_addB, ↓b_mul, ↓b_div, ↓b_mod, ↓b_pow, ↓b_addT, ↓b_mulT, ↓c_lt, ↓c_le, ↓c_gt, ↓c_ge, ↓c_isB, ↓c_isNotB, ↓c_isN, ↓c_isNotN, ↓t_abs, ↓t_int, ↓t_intB, ↓t_len, ↓t_min, ↓t_max, ↓t_tupT, ↓t_lstT, ↓i_v, ↓i_tup, ↓i_lst, ↓i_call, ↓i_ix, ↓i_sl, ↓lc_nil, ↓lc_cons, ↓w_lcB, ↓fo_nil, ↓fo_cons, ↓ts_nil, ↓ts_cons, ↓t_all, ↓t_any, ↓t_tup, ↓wI_int, ↓wR_ok, ↓v_0, ↓v_1, ↓v_2, ↓v_3, ↓v_4, ↓v_5, ↓v_6, ↓v_7, ↓v_8, ↓v_9, ↓v_10, ↓v_11, ↓v_12, ↓v_13, ↓v_14, ↓v_15, ↓v_16, ↓v_17, ↓v_18, ↓v_19, ↓v_20, ↓v_21, ↓v_22, ↓v_23, ↓v_24, ↓v_25, ↓v_26, ↓v_27, ↓v_28, ↓v_29, ↓v_30, ↓v_31, ↓as_0, ↓as_1, ↓as_2, ↓as_3, ↓as_4, ↓as_5, ↓as_6, ↓as_7, ↓as_8, ↓as_9, ↓as_10, ↓as_11, ↓as_12, ↓as_13, ↓as_14, ↓as_15, ↓as_16, ↓as_17, ↓as_18, ↓as_19, ↓as_20, ↓as_21, ↓as_22, ↓as_23, ↓as_24, ↓as_25, ↓as_26, ↓as_27, ↓as_28, ↓as_29, ↓as_30, ↓as_31, ↓as_t, ↓as_n, ↓as_c, ↓x1_0, ↓x2_0, ↓x2_1, ↓x3_0, ↓x3_1, ↓x3_2, ↓x4_0, ↓x4_1, ↓x4_2, ↓x4_3, ↓x5_0, ↓x5_1, ↓x5_2, ↓x5_3, ↓x5_4, ↓gc_id, ↓gc_bl, ↓gc_bl2, ↓gc_bl3, ↓gc_i, ↓gc_i2, ↓gc_n, ↓gc_n2, ↓gc_ex, ↓gc_ex0, ↓gc_ex2, ↓ce_ii, ↓ce_bb, ↓ce_2, ↓ce_3, ↓cn_ii, ↓cn_bb, ↓cn_2, ↓cn_3, ↓pk_bl, ↓pk_int, ↓pk_tn, ↓pk_tc, ↓pk_non, ↓nb_bl, ↓nb_int, ↓yt_non, ↓yt_bl, ↓yt_int, ↓yt_str, ↓yt_tup, ↓wp_tup, List.length_cons, List.length_nil, lim, Nat.reduceAdd, Nat.reduceLeDiff, true_and, and_true, is_ii, is_ib, is_bi, is_bb, is_tt, is_lt, is_it, is_nt, is_st, is_ni, is_si, is_ti, is_li, Bool.not_true, Bool.not_false, Bool.false_eq_true, if_true, if_false, abs_eq, Int.cast_ofNat_Int, BEq.rfl, beq_iff_eq, Int.reduceBEq, Int.reduceLT, Int.reduceLE, Int.reduceNeg, Int.reduceEq, List.all_cons, List.all_nil, id, Bool.and_true, Bool.true_and, Bool.and_self, same_nil', oc_some, oc_none, bls, wBs_some, wipe, Option.map_some, List.set_cons_zero, List.set_cons_succ, decide_true, decide_false, ↓reduceIte, decide_eq_true_eq, Bool.not_eq_true', ↓p_0, ↓p_1, ↓p_2, ↓p_len, ↓p_eq, ↓p_ne, ↓p_ty, ↓p_items, ↓e_rv, ↓rv_2, mulOk_sm, ↓w_of _ _ (llies_e _ _ _ _ _), g1, g2]
            · simp (decide := true) only [↓ss_cons, ↓ss_nil, ↓s_set, ↓s_ret, ↓s_retN, ↓s_expr, ↓s_ife, ↓s_raise, ↓s_cnt, ↓s_brk, ↓s_pass, ↓s_setX, ↓s_for, ↓s_foS, ↓e_k, ↓e_tup, ↓e_lst, ↓e_call, ↓e_blt, ↓e_cmp, ↓e_bin, ↓e_neg, ↓e_and, ↓e_or, ↓e_not, ↓e_ite, ↓e_chain, ↓e_ix, ↓e_isi, ↓e_meth, ↓e_sl, ↓e_lam, ↓e_lc, ↓es_cons, ↓es_nil, ↓o_no, ↓b_add, ↓b_sub, ↓b_subB, ↓b_addB, ↓b_mul, ↓b_div, ↓b_mod, ↓b_pow, ↓b_addT, ↓b_mulT, ↓c_lt, ↓c_le, ↓c_gt, ↓c_ge, ↓c_isB, ↓c_isNotB, ↓c_isN, ↓c_isNotN, ↓t_abs, ↓t_int, ↓t_intB, ↓t_len, ↓t_min, ↓t_max, ↓t_tupT, ↓t_lstT, ↓i_v, ↓i_tup, ↓i_lst, ↓i_call, ↓i_ix, ↓i_sl, ↓lc_nil, ↓lc_cons, ↓w_lcB, ↓fo_nil, ↓fo_cons, ↓ts_nil, ↓ts_cons, ↓t_all, ↓t_any, ↓t_tup, ↓wI_int, ↓wR_ok, ↓v_0, ↓v_1, ↓v_2, ↓v_3, ↓v_4, ↓v_5, ↓v_6, ↓v_7, ↓v_8, ↓v_9, ↓v_10, ↓v_11, ↓v_12, ↓v_13, ↓v_14, ↓v_15, ↓v_16, ↓v_17, ↓v_18, ↓v_19, ↓v_20, ↓v_21, ↓v_22, ↓v_23, ↓v_24, ↓v_25, ↓v_26, ↓v_27, ↓v_28, ↓v_29, ↓v_30, ↓v_31, ↓as_0, ↓as_1, ↓as_2, ↓as_3, ↓as_4, ↓as_5, ↓as_6, ↓as_7, ↓as_8, ↓as_9, ↓as_10, ↓as_11, ↓as_12, ↓as_13, ↓as_14, ↓as_15, ↓as_16, ↓as_17, ↓as_18, ↓as_19, ↓as_20, ↓as_21, ↓as_22, ↓as_23, ↓as_24, ↓as_25, ↓as_26, ↓as_27, ↓as_28, ↓as_29, ↓as_30, ↓as_31, ↓as_t, ↓as_n, ↓as_c, ↓x1_0, ↓x2_0, ↓x2_1, ↓x3_0, ↓x3_1, ↓x3_2, ↓x4_0, ↓x4_1, ↓x4_2, ↓x4_3, ↓x5_0, ↓x5_1, ↓x5_2, ↓x5_3, ↓x5_4, ↓gc_id, ↓gc_bl, ↓gc_bl2, ↓gc_bl3, ↓gc_i, ↓gc_i2, ↓gc_n, ↓gc_n2, ↓gc_ex, ↓gc_ex0, ↓gc_ex2, ↓ce_ii, ↓ce_bb, ↓ce_2, ↓ce_3, ↓cn_ii, ↓cn_bb, ↓cn_2, ↓cn_3, ↓pk_bl, ↓pk_int, ↓pk_tn, ↓pk_tc, ↓pk_non, ↓nb_bl, ↓nb_int, ↓yt_non, ↓yt_bl, ↓yt_int, ↓yt_str, ↓yt_tup, ↓wp_tup, List.length_cons, List.length_nil, lim, Nat.reduceAdd, Nat.reduceLeDiff, true_and, and_true, is_ii, is_ib, is_bi, is_bb, is_tt, is_lt, is_it, is_nt, is_st, is_ni, is_si, is_ti, is_li, Bool.not_true, Bool.not_false, Bool.false_eq_true, if_true, if_false, abs_eq, Int.cast_ofNat_Int, BEq.rfl, beq_iff_eq, Int.reduceBEq, Int.reduceLT, Int.reduceLE, Int.reduceNeg, Int.reduceEq, List.all_cons, List.all_nil, id, Bool.and_true, Bool.true_and, Bool.and_self, same_nil', oc_some, oc_none, bls, wBs_some, wipe, Option.map_some, List.set_cons_zero, List.set_cons_succ, decide_true, decide_false, ↓reduceIte, decide_eq_true_eq, Bool.not_eq_true', ↓p_0, ↓p_1, ↓p_2, ↓p_len, ↓p_eq, ↓p_ne, ↓p_ty, ↓p_items, ↓e_rv, ↓rv_2, mulOk_sm, ↓w_of _ _ (llies_e _ _ _ _ _), g1, g2, Bool.and_false]
          · simp (decide := true) only [↓ss_cons, ↓ss_nil, ↓s_set, ↓s_ret, ↓s_retN, ↓s_expr, ↓s_ife, ↓s_raise, ↓s_cnt, ↓s_brk, ↓s_pass, ↓s_setX, ↓s_for, ↓s_foS, ↓e_k, ↓e_tup, ↓e_lst, ↓e_call, ↓e_blt, ↓e_cmp, ↓e_bin, ↓e_neg, ↓e_and, ↓e_or, ↓e_not, ↓e_ite, ↓e_chain, ↓e_ix, ↓e_isi, ↓e_meth, ↓e_sl, ↓e_lam, ↓e_lc, ↓es_cons, ↓es_nil, ↓o_no, ↓b_add, ↓b_sub, ↓b_subB, ↓b_addB, ↓b_mul, ↓b_div, ↓b_mod, ↓b_pow, ↓b_addT, ↓b_mulT, ↓c_lt, ↓c_le, ↓c_gt, ↓c_ge, ↓c_isB, ↓c_isNotB, ↓c_isN, ↓c_isNotN, ↓t_abs, ↓t_int, ↓t_intB, ↓t_len, ↓t_min, ↓t_max, ↓t_tupT, ↓t_lstT, ↓i_v, ↓i_tup, ↓i_lst, ↓i_call, ↓i_ix, ↓i_sl, ↓lc_nil, ↓lc_cons, ↓w_lcB, ↓fo_nil, ↓fo_cons, ↓ts_nil, ↓ts_cons, ↓t_all, ↓t_any, ↓t_tup, ↓wI_int, ↓wR_ok, ↓v_0, ↓v_1, ↓v_2, ↓v_3, ↓v_4, ↓v_5, ↓v_6, ↓v_7, ↓v_8, ↓v_9, ↓v_10, ↓v_11, ↓v_12, ↓v_13, ↓v_14, ↓v_15, ↓v_16, ↓v_17, ↓v_18, ↓v_19, ↓v_20, ↓v_21, ↓v_22, ↓v_23, ↓v_24, ↓v_25, ↓v_26, ↓v_27, ↓v_28, ↓v_29, ↓v_30, ↓v_31, ↓as_0, ↓as_1, ↓as_2, ↓as_3, ↓as_4, ↓as_5, ↓as_6, ↓as_7, ↓as_8, ↓as_9, ↓as_10, ↓as_11, ↓as_12, ↓as_13, ↓as_14, ↓as_15, ↓as_16, ↓as_17, ↓as_18, ↓as_19, ↓as_20, ↓as_21, ↓as_22, ↓as_23, ↓as_24, ↓as_25, ↓as_26, ↓as_27, ↓as_28, ↓as_29, ↓as_30, ↓as_31, ↓as_t, ↓as_n, ↓as_c, ↓x1_0, ↓x2_0, ↓x2_1, ↓x3_0, ↓x3_1, ↓x3_2, ↓x4_0, ↓x4_1, ↓x4_2, ↓x4_3, ↓x5_0, ↓x5_1, ↓x5_2, ↓x5_3, ↓x5_4, ↓gc_id, ↓gc_bl, ↓gc_bl2, ↓gc_bl3, ↓gc_i, ↓gc_i2, ↓gc_n, ↓gc_n2, ↓gc_ex, ↓gc_ex0, ↓gc_ex2, ↓ce_ii, ↓ce_bb, ↓ce_2, ↓ce_3, ↓cn_ii, ↓cn_bb, ↓cn_2, ↓cn_3, ↓pk_bl, ↓pk_int, ↓pk_tn, ↓pk_tc, ↓pk_non, ↓nb_bl, ↓nb_int, ↓yt_non, ↓yt_bl, ↓yt_int, ↓yt_str, ↓yt_tup, ↓wp_tup, List.length_cons, List.length_nil, lim, Nat.reduceAdd, Nat.reduceLeDiff, true_and, and_true, is_ii, is_ib, is_bi, is_bb, is_tt, is_lt, is_it, is_nt, is_st, is_ni, is_si, is_ti, is_li, Bool.not_true, Bool.not_false, Bool.false_eq_true, if_true, if_false, abs_eq, Int.cast_ofNat_Int, BEq.rfl, beq_iff_eq, Int.reduceBEq, Int.reduceLT, Int.reduceLE, Int.reduceNeg, Int.reduceEq, List.all_cons, List.all_nil, id, Bool.and_true, Bool.true_and, Bool.and_self, same_nil', oc_some, oc_none, bls, wBs_some, wipe, Option.map_some, List.set_cons_zero, List.set_cons_succ, decide_true, decide_false, ↓reduceIte, decide_eq_true_eq, Bool.not_eq_true', ↓p_0, ↓p_1, ↓p_2, ↓p_len, ↓p_eq, ↓p_ne, ↓p_ty, ↓p_items, ↓e_rv, ↓rv_2, mulOk_sm, ↓w_of _ _ (llies_e _ _ _ _ _), g1, Bool.false_and]
        · refine ⟨?_, ?_⟩
          · rw [List.length_map]
            exact Nat.le_trans (List.length_filter_le _ _) (by show 4 ≤ lim; decide)
          · exact hI _ _ ⟨rfl, rfl⟩
      rintro _ c' ⟨rfl, h0⟩
      rw [h0]; clear h0 c'
      have hends : ∀ z ∈ endsP a b x y, Pn.Ok z := fun z hz => four_mem (P := Pn.Ok) oa ob ox oy z (List.mem_filter.mp hz).1
      have hcell : (c ++ [.lst ((endsP a b x y).map Pn.d)])[c.length]? = some (.lst ((endsP a b x y).map Pn.d)) := last_cell _ _
      unfold shlineR at hQ
      generalize endsP a b x y = ends at *
      have hnil : ∀ (b : Bool), (ends.map Pn.d).isEmpty = b → ∀ (Q : QD) (E : QX), wR (opCmp .Eq (.ref c.length) (.ref (c ++ [Cell.lst (ends.map Pn.d)]).length) (c ++ [Cell.lst (ends.map Pn.d)] ++ [Cell.lst []])) Q E = Q (.bl b) (c ++ [Cell.lst (ends.map Pn.d)] ++ [Cell.lst []]) := fun b hb Q E => by
        rw [← hb]; exact ce_nil hcell (Pn.fls _) (Nat.le_trans (Pn.deps _) (by decide)) Q E
      cases ends with
      | nil =>
        dsimp only at hQ
        simp (decide := true) only [↓ss_cons, ↓ss_nil, ↓s_set, ↓s_ret, ↓s_retN, ↓s_expr, ↓s_ife, ↓s_raise, ↓s_cnt, ↓s_brk, ↓s_pass, ↓s_setX, ↓s_for, ↓s_foS, ↓e_k, ↓e_tup, ↓e_lst, ↓e_call, ↓e_blt, ↓e_cmp, ↓e_bin, ↓e_neg, ↓e_and, ↓e_or, ↓e_not, ↓e_ite, ↓e_chain, ↓e_ix, ↓e_isi, ↓e_meth, ↓e_sl, ↓e_lam, ↓e_lc, ↓es_cons, ↓es_nil, ↓o_no, ↓b_add, ↓b_sub, ↓b_subB, ↓b_addB, ↓b_mul, ↓b_div, ↓b_mod, ↓b_pow, ↓b_addT, ↓b_mulT, ↓c_lt, ↓c_le, ↓c_gt, ↓c_ge, ↓c_isB, ↓c_isNotB, ↓c_isN, ↓c_isNotN, ↓t_abs, ↓t_int, ↓t_intB, ↓t_len, ↓t_min, ↓t_max, ↓t_tupT, ↓t_lstT, ↓i_v, ↓i_tup, ↓i_lst, ↓i_call, ↓i_ix, ↓i_sl, ↓w_lcB, ↓ts_nil, ↓ts_cons, ↓t_all, ↓t_any, ↓t_tup, ↓wI_int, ↓wR_ok, ↓v_0, ↓v_1, ↓v_2, ↓v_3, ↓v_4, ↓v_5, ↓v_6, ↓v_7, ↓v_8, ↓v_9, ↓v_10, ↓v_11, ↓v_12, ↓v_13, ↓v_14, ↓v_15, ↓v_16, ↓v_17, ↓v_18, ↓v_19, ↓v_20, ↓v_21, ↓v_22, ↓v_23, ↓v_24, ↓v_25, ↓v_26, ↓v_27, ↓v_28, ↓v_29, ↓v_30, ↓v_31, ↓as_0, ↓as_1, ↓as_2, ↓as_3, ↓as_4, ↓as_5, ↓as_6, ↓as_7, ↓as_8, ↓as_9, ↓as_10, ↓as_11, ↓as_12, ↓as_13, ↓as_14, ↓as_15, ↓as_16, ↓as_17, ↓as_18, ↓as_19, ↓as_20, ↓as_21, ↓as_22, ↓as_23, ↓as_24, ↓as_25, ↓as_26, ↓as_27, ↓as_28, ↓as_29, ↓as_30, ↓as_31, ↓as_t, ↓as_n, ↓as_c, ↓x1_0, ↓x2_0, ↓x2_1, ↓x3_0, ↓x3_1, ↓x3_2, ↓x4_0, ↓x4_1, ↓x4_2, ↓x4_3, ↓x5_0, ↓x5_1, ↓x5_2, ↓x5_3, ↓x5_4, ↓gc_id, ↓gc_bl, ↓gc_bl2, ↓gc_bl3, ↓gc_i, ↓gc_i2, ↓gc_n, ↓gc_n2, ↓gc_ex, ↓gc_ex0, ↓gc_ex2, ↓ce_ii, ↓ce_bb, ↓ce_2, ↓ce_3, ↓cn_ii, ↓cn_bb, ↓cn_2, ↓cn_3, ↓pk_bl, ↓pk_int, ↓pk_tn, ↓pk_tc, ↓pk_non, ↓nb_bl, ↓nb_int, ↓yt_non, ↓yt_bl, ↓yt_int, ↓yt_str, ↓yt_tup, ↓wp_tup, List.length_cons, List.length_nil, lim, Nat.reduceAdd, Nat.reduceLeDiff, true_and, and_true, is_ii, is_ib, is_bi, is_bb, is_tt, is_lt, is_it, is_nt, is_st, is_ni, is_si, is_ti, is_li, Bool.not_true, Bool.not_false, Bool.false_eq_true, if_true, if_false, abs_eq, Int.cast_ofNat_Int, BEq.rfl, beq_iff_eq, Int.reduceBEq, Int.reduceLT, Int.reduceLE, Int.reduceNeg, Int.reduceEq, List.all_cons, List.all_nil, id, Bool.and_true, Bool.true_and, Bool.and_self, same_nil', oc_some, oc_none, bls, wBs_some, wipe, Option.map_some, List.set_cons_zero, List.set_cons_succ, decide_true, decide_false, ↓reduceIte, decide_eq_true_eq, Bool.not_eq_true', ↓p_0, ↓p_1, ↓p_2, ↓p_len, ↓p_eq, ↓p_ne, ↓p_ty, ↓p_items, ↓e_rv, ↓rv_2, mulOk_sm, ↓hnil true rfl]
        exact hQ
      | cons e r =>
        refine seq (fun ρ' c' => ρ' = [some (segD a b), some (segD x y), some (a.d), some (b.d), some (x.d), some (y.d), some (D.int (sw a b x y)), some (D.int (a.x * (b.w * x.w * y.w))), some (D.int (a.y * (b.w * x.w * y.w))), some (D.int (b.x * (a.w * x.w * y.w))), some (D.int (b.y * (a.w * x.w * y.w))), some (D.int (x.x * (a.w * b.w * y.w))), some (D.int (x.y * (a.w * b.w * y.w))), some (D.int (y.x * (a.w * b.w * x.w))), some (D.int (y.y * (a.w * b.w * x.w))), some (D.int (sU a b x y).1), some (D.int (sU a b x y).2), some (D.int (sV a b x y).1), some (D.int (sV a b x y).2), some (D.int (sE a b x y).1), some (D.int (sE a b x y).2), some (D.int (sWhole a b x y)), none, none, none, some (D.ref c.length), none, none, none] ∧ c' = c ++ [.lst ((e :: r).map Pn.d)] ++ [.lst []]) (fun I hI => ?_) ?_
        · simp (decide := true) only [↓ss_cons, ↓ss_nil, ↓s_set, ↓s_ret, ↓s_retN, ↓s_expr, ↓s_ife, ↓s_raise, ↓s_cnt, ↓s_brk, ↓s_pass, ↓s_setX, ↓s_for, ↓s_foS, ↓e_k, ↓e_tup, ↓e_lst, ↓e_call, ↓e_blt, ↓e_cmp, ↓e_bin, ↓e_neg, ↓e_and, ↓e_or, ↓e_not, ↓e_ite, ↓e_chain, ↓e_ix, ↓e_isi, ↓e_meth, ↓e_sl, ↓e_lam, ↓e_lc, ↓es_cons, ↓es_nil, ↓o_no, ↓b_add, ↓b_sub, ↓b_subB, ↓b_addB, ↓b_mul, ↓b_div, ↓b_mod, ↓b_pow, ↓b_addT, ↓b_mulT, ↓c_lt, ↓c_le, ↓c_gt, ↓c_ge, ↓c_isB, ↓c_isNotB, ↓c_isN, ↓c_isNotN, ↓t_abs, ↓t_int, ↓t_intB, ↓t_len, ↓t_min, ↓t_max, ↓t_tupT, ↓t_lstT, ↓i_v, ↓i_tup, ↓i_lst, ↓i_call, ↓i_ix, ↓i_sl, ↓w_lcB, ↓ts_nil, ↓ts_cons, ↓t_all, ↓t_any, ↓t_tup, ↓wI_int, ↓wR_ok, ↓v_0, ↓v_1, ↓v_2, ↓v_3, ↓v_4, ↓v_5, ↓v_6, ↓v_7, ↓v_8, ↓v_9, ↓v_10, ↓v_11, ↓v_12, ↓v_13, ↓v_14, ↓v_15, ↓v_16, ↓v_17, ↓v_18, ↓v_19, ↓v_20, ↓v_21, ↓v_22, ↓v_23, ↓v_24, ↓v_25, ↓v_26, ↓v_27, ↓v_28, ↓v_29, ↓v_30, ↓v_31, ↓as_0, ↓as_1, ↓as_2, ↓as_3, ↓as_4, ↓as_5, ↓as_6, ↓as_7, ↓as_8, ↓as_9, ↓as_10, ↓as_11, ↓as_12, ↓as_13, ↓as_14, ↓as_15, ↓as_16, ↓as_17, ↓as_18, ↓as_19, ↓as_20, ↓as_21, ↓as_22, ↓as_23, ↓as_24, ↓as_25, ↓as_26, ↓as_27, ↓as_28, ↓as_29, ↓as_30, ↓as_31, ↓as_t, ↓as_n, ↓as_c, ↓x1_0, ↓x2_0, ↓x2_1, ↓x3_0, ↓x3_1, ↓x3_2, ↓x4_0, ↓x4_1, ↓x4_2, ↓x4_3, ↓x5_0, ↓x5_1, ↓x5_2, ↓x5_3, ↓x5_4, ↓gc_id, ↓gc_bl, ↓gc_bl2, ↓gc_bl3, ↓gc_i, ↓gc_i2, ↓gc_n, ↓gc_n2, ↓gc_ex, ↓gc_ex0, ↓gc_ex2, ↓ce_ii, ↓ce_bb, ↓ce_2, ↓ce_3, ↓cn_ii, ↓cn_bb, ↓cn_2, ↓cn_3, ↓pk_bl, ↓pk_int, ↓pk_tn, ↓pk_tc, ↓pk_non, ↓nb_bl, ↓nb_int, ↓yt_non, ↓yt_bl, ↓yt_int, ↓yt_str, ↓yt_tup, ↓wp_tup, List.length_cons, List.length_nil, lim, Nat.reduceAdd, Nat.reduceLeDiff, true_and, and_true, is_ii, is_ib, is_bi, is_bb, is_tt, is_lt, is_it, is_nt, is_st, is_ni, is_si, is_ti, is_li, Bool.not_true, Bool.not_false, Bool.false_eq_true, if_true, if_false, abs_eq, Int.cast_ofNat_Int, BEq.rfl, beq_iff_eq, Int.reduceBEq, Int.reduceLT, Int.reduceLE, Int.reduceNeg, Int.reduceEq, List.all_cons, List.all_nil, id, Bool.and_true, Bool.true_and, Bool.and_self, same_nil', oc_some, oc_none, bls, wBs_some, wipe, Option.map_some, List.set_cons_zero, List.set_cons_succ, decide_true, decide_false, ↓reduceIte, decide_eq_true_eq, Bool.not_eq_true', ↓p_0, ↓p_1, ↓p_2, ↓p_len, ↓p_eq, ↓p_ne, ↓p_ty, ↓p_items, ↓e_rv, ↓rv_2, mulOk_sm, ↓hnil false rfl]
          exact hI _ _ ⟨rfl, rfl⟩
        rintro _ c' ⟨rfl, h0⟩
        rw [h0]; clear h0 c'
        have hcell2 : (c ++ [.lst ((e :: r).map Pn.d)] ++ [.lst []])[c.length]? = some (.lst ((e :: r).map Pn.d)) := by
          rw [List.getElem?_append_left (by simp)]; exact hcell
        clear hcell hnil
        generalize hC : c ++ [.lst ((e :: r).map Pn.d)] ++ [.lst []] = C at *
        refine seq (fun ρ' c' => ρ' = [some (segD a b), some (segD x y), some (a.d), some (b.d), some (x.d), some (y.d), some (D.int (sw a b x y)), some (D.int (a.x * (b.w * x.w * y.w))), some (D.int (a.y * (b.w * x.w * y.w))), some (D.int (b.x * (a.w * x.w * y.w))), some (D.int (b.y * (a.w * x.w * y.w))), some (D.int (x.x * (a.w * b.w * y.w))), some (D.int (x.y * (a.w * b.w * y.w))), some (D.int (y.x * (a.w * b.w * x.w))), some (D.int (y.y * (a.w * b.w * x.w))), some (D.int (sU a b x y).1), some (D.int (sU a b x y).2), some (D.int (sV a b x y).1), some (D.int (sV a b x y).2), some (D.int (sE a b x y).1), some (D.int (sE a b x y).2), some (D.int (sWhole a b x y)), none, none, none, some (D.ref c.length), some (e.d), some (e.d), none] ∧ c' = C) (fun I hI => ?_) ?_
        · simp (decide := true) only [↓ss_cons, ↓ss_nil, ↓s_set, ↓s_ret, ↓s_retN, ↓s_expr, ↓s_ife, ↓s_raise, ↓s_cnt, ↓s_brk, ↓s_pass, ↓s_setX, ↓s_for, ↓s_foS, ↓e_k, ↓e_tup, ↓e_lst, ↓e_call, ↓e_blt, ↓e_cmp, ↓e_bin, ↓e_neg, ↓e_and, ↓e_or, ↓e_not, ↓e_ite, ↓e_chain, ↓e_ix, ↓e_isi, ↓e_meth, ↓e_sl, ↓e_lam, ↓e_lc, ↓es_cons, ↓es_nil, ↓o_no, ↓b_add, ↓b_sub, ↓b_subB, ↓b_addB, ↓b_mul, ↓b_div, ↓b_mod, ↓b_pow, ↓b_addT, ↓b_mulT, ↓c_lt, ↓c_le, ↓c_gt, ↓c_ge, ↓c_isB, ↓c_isNotB, ↓c_isN, ↓c_isNotN, ↓t_abs, ↓t_int, ↓t_intB, ↓t_len, ↓t_min, ↓t_max, ↓t_tupT, ↓t_lstT, ↓i_v, ↓i_tup, ↓i_lst, ↓i_call, ↓i_ix, ↓i_sl, ↓w_lcB, ↓ts_nil, ↓ts_cons, ↓t_all, ↓t_any, ↓t_tup, ↓wI_int, ↓wR_ok, ↓v_0, ↓v_1, ↓v_2, ↓v_3, ↓v_4, ↓v_5, ↓v_6, ↓v_7, ↓v_8, ↓v_9, ↓v_10, ↓v_11, ↓v_12, ↓v_13, ↓v_14, ↓v_15, ↓v_16, ↓v_17, ↓v_18, ↓v_19, ↓v_20, ↓v_21, ↓v_22, ↓v_23, ↓v_24, ↓v_25, ↓v_26, ↓v_27, ↓v_28, ↓v_29, ↓v_30, ↓v_31, ↓as_0, ↓as_1, ↓as_2, ↓as_3, ↓as_4, ↓as_5, ↓as_6, ↓as_7, ↓as_8, ↓as_9, ↓as_10, ↓as_11, ↓as_12, ↓as_13, ↓as_14, ↓as_15, ↓as_16, ↓as_17, ↓as_18, ↓as_19, ↓as_20, ↓as_21, ↓as_22, ↓as_23, ↓as_24, ↓as_25, ↓as_26, ↓as_27, ↓as_28, ↓as_29, ↓as_30, ↓as_31, ↓as_t, ↓as_n, ↓as_c, ↓x1_0, ↓x2_0, ↓x2_1, ↓x3_0, ↓x3_1, ↓x3_2, ↓x4_0, ↓x4_1, ↓x4_2, ↓x4_3, ↓x5_0, ↓x5_1, ↓x5_2, ↓x5_3, ↓x5_4, ↓gc_id, ↓gc_bl, ↓gc_bl2, ↓gc_bl3, ↓gc_i, ↓gc_i2, ↓gc_n, ↓gc_n2, ↓gc_ex, ↓gc_ex0, ↓gc_ex2, ↓ce_ii, ↓ce_bb, ↓ce_2, ↓ce_3, ↓cn_ii, ↓cn_bb, ↓cn_2, ↓cn_3, ↓pk_bl, ↓pk_int, ↓pk_tn, ↓pk_tc, ↓pk_non, ↓nb_bl, ↓nb_int, ↓yt_non, ↓yt_bl, ↓yt_int, ↓yt_str, ↓yt_tup, ↓wp_tup, List.length_cons, List.length_nil, lim, Nat.reduceAdd, Nat.reduceLeDiff, true_and, and_true, is_ii, is_ib, is_bi, is_bb, is_tt, is_lt, is_it, is_nt, is_st, is_ni, is_si, is_ti, is_li, Bool.not_true, Bool.not_false, Bool.false_eq_true, if_true, if_false, abs_eq, Int.cast_ofNat_Int, BEq.rfl, beq_iff_eq, Int.reduceBEq, Int.reduceLT, Int.reduceLE, Int.reduceNeg, Int.reduceEq, List.all_cons, List.all_nil, id, Bool.and_true, Bool.true_and, Bool.and_self, same_nil', oc_some, oc_none, bls, wBs_some, wipe, Option.map_some, List.set_cons_zero, List.set_cons_succ, decide_true, decide_false, ↓reduceIte, decide_eq_true_eq, Bool.not_eq_true', ↓p_0, ↓p_1, ↓p_2, ↓p_len, ↓p_eq, ↓p_ne, ↓p_ty, ↓p_items, ↓e_rv, ↓rv_2, mulOk_sm, ↓ix_0 hcell2]
          exact hI _ _ ⟨rfl, rfl⟩
        rintro _ c' ⟨rfl, h0⟩
        rw [h0]; clear h0 c'
        refine seq (fun ρ' c' => (∃ z, ρ' = ([some (segD a b), some (segD x y), some (a.d), some (b.d), some (x.d), some (y.d), some (D.int (sw a b x y)), some (D.int (a.x * (b.w * x.w * y.w))), some (D.int (a.y * (b.w * x.w * y.w))), some (D.int (b.x * (a.w * x.w * y.w))), some (D.int (b.y * (a.w * x.w * y.w))), some (D.int (x.x * (a.w * b.w * y.w))), some (D.int (x.y * (a.w * b.w * y.w))), some (D.int (y.x * (a.w * b.w * x.w))), some (D.int (y.y * (a.w * b.w * x.w))), some (D.int (sU a b x y).1), some (D.int (sU a b x y).2), some (D.int (sV a b x y).1), some (D.int (sV a b x y).2), some (D.int (sE a b x y).1), some (D.int (sE a b x y).2), some (D.int (sWhole a b x y)), none, none, none, some (D.ref c.length), some ((leastP e (e :: r)).d), some ((mostP e (e :: r)).d), none] : Lo).set 24 z) ∧ c' = C) (fun I hI => ?_) ?_
        · rw [s_for, i_v]
          simp (decide := true) only [↓ss_cons, ↓ss_nil, ↓s_set, ↓s_ret, ↓s_retN, ↓s_expr, ↓s_ife, ↓s_raise, ↓s_cnt, ↓s_brk, ↓s_pass, ↓s_setX, ↓s_for, ↓s_foS, ↓e_k, ↓e_tup, ↓e_lst, ↓e_call, ↓e_blt, ↓e_cmp, ↓e_bin, ↓e_neg, ↓e_and, ↓e_or, ↓e_not, ↓e_ite, ↓e_chain, ↓e_ix, ↓e_isi, ↓e_meth, ↓e_sl, ↓e_lam, ↓e_lc, ↓es_cons, ↓es_nil, ↓o_no, ↓b_add, ↓b_sub, ↓b_subB, ↓b_addB, ↓b_mul, ↓b_div, ↓b_mod, ↓b_pow, ↓b_addT, ↓b_mulT, ↓c_lt, ↓c_le, ↓c_gt, ↓c_ge, ↓c_isB, ↓c_isNotB, ↓c_isN, ↓c_isNotN, ↓t_abs, ↓t_int, ↓t_intB, ↓t_len, ↓t_min, ↓t_max, ↓t_tupT, ↓t_lstT, ↓i_v, ↓i_tup, ↓i_lst, ↓i_call, ↓i_ix, ↓i_sl, ↓w_lcB, ↓ts_nil, ↓ts_cons, ↓t_all, ↓t_any, ↓t_tup, ↓wI_int, ↓wR_ok, ↓v_0, ↓v_1, ↓v_2, ↓v_3, ↓v_4, ↓v_5, ↓v_6, ↓v_7, ↓v_8, ↓v_9, ↓v_10, ↓v_11, ↓v_12, ↓v_13, ↓v_14, ↓v_15, ↓v_16, ↓v_17, ↓v_18, ↓v_19, ↓v_20, ↓v_21, ↓v_22, ↓v_23, ↓v_24, ↓v_25, ↓v_26, ↓v_27, ↓v_28, ↓v_29, ↓v_30, ↓v_31, ↓as_0, ↓as_1, ↓as_2, ↓as_3, ↓as_4, ↓as_5, ↓as_6, ↓as_7, ↓as_8, ↓as_9, ↓as_10, ↓as_11, ↓as_12, ↓as_13, ↓as_14, ↓as_15, ↓as_16, ↓as_17, ↓as_18, ↓as_19, ↓as_20, ↓as_21, ↓as_22, ↓as_23, ↓as_24, ↓as_25, ↓as_26, ↓as_27, ↓as_28, ↓as_29, ↓as_30, ↓as_31, ↓as_t, ↓as_n, ↓as_c, ↓x1_0, ↓x2_0, ↓x2_1, ↓x3_0, ↓x3_1, ↓x3_2, ↓x4_0, ↓x4_1, ↓x4_2, ↓x4_3, ↓x5_0, ↓x5_1, ↓x5_2, ↓x5_3, ↓x5_4, ↓gc_id, ↓gc_bl, ↓gc_bl2, ↓gc_bl3, ↓gc_i, ↓gc_i2, ↓gc_n, ↓gc_n2, ↓gc_ex, ↓gc_ex0, ↓gc_ex2, ↓ce_ii, ↓ce_bb, ↓ce_2, ↓ce_3, ↓cn_ii, ↓cn_bb, ↓cn_2, ↓cn_3, ↓pk_bl, ↓pk_int, ↓pk_tn, ↓pk_tc, ↓pk_non, ↓nb_bl, ↓nb_int, ↓yt_non, ↓yt_bl, ↓yt_int, ↓yt_str, ↓yt_tup, ↓wp_tup, List.length_cons, List.length_nil, lim, Nat.reduceAdd, Nat.reduceLeDiff, true_and, and_true, is_ii, is_ib, is_bi, is_bb, is_tt, is_lt, is_it, is_nt, is_st, is_ni, is_si, is_ti, is_li, Bool.not_true, Bool.not_false, Bool.false_eq_true, if_true, if_false, abs_eq, Int.cast_ofNat_Int, BEq.rfl, beq_iff_eq, Int.reduceBEq, Int.reduceLT, Int.reduceLE, Int.reduceNeg, Int.reduceEq, List.all_cons, List.all_nil, id, Bool.and_true, Bool.true_and, Bool.and_self, same_nil', oc_some, oc_none, bls, wBs_some, wipe, Option.map_some, List.set_cons_zero, List.set_cons_succ, decide_true, decide_false, ↓reduceIte, decide_eq_true_eq, Bool.not_eq_true', ↓p_0, ↓p_1, ↓p_2, ↓p_len, ↓p_eq, ↓p_ne, ↓p_ty, ↓p_items, ↓e_rv, ↓rv_2, mulOk_sm, ↓items_lst hcell2]
          refine go_forP Pn.d (fun xs ρ' => ∃ z low high, ρ' = ([some (segD a b), some (segD x y), some (a.d), some (b.d), some (x.d), some (y.d), some (D.int (sw a b x y)), some (D.int (a.x * (b.w * x.w * y.w))), some (D.int (a.y * (b.w * x.w * y.w))), some (D.int (b.x * (a.w * x.w * y.w))), some (D.int (b.y * (a.w * x.w * y.w))), some (D.int (x.x * (a.w * b.w * y.w))), some (D.int (x.y * (a.w * b.w * y.w))), some (D.int (y.x * (a.w * b.w * x.w))), some (D.int (y.y * (a.w * b.w * x.w))), some (D.int (sU a b x y).1), some (D.int (sU a b x y).2), some (D.int (sV a b x y).1), some (D.int (sV a b x y).2), some (D.int (sE a b x y).1), some (D.int (sE a b x y).2), some (D.int (sWhole a b x y)), none, none, none, some (D.ref c.length), some (low.d), some (high.d), none] : Lo).set 24 z ∧ Pn.Ok low ∧ Pn.Ok high ∧ (∀ x ∈ xs, Pn.Ok x) ∧ leastP low xs = leastP e (e :: r) ∧ mostP high xs = mostP e (e :: r)) ⟨none, e, e, rfl, hends e (by simp), hends e (by simp), fun x hx => hends x hx, rfl, rfl⟩ ?_ ?_
          · rintro z xs ρ' ⟨_, low, high, rfl, o1, o2, o3, l1, l2⟩
            haveI := o3 z (by simp)
            rw [s_foS]
            have e1 : leastP low (z :: xs) = leastP (if cmpP z low < 0 then z else low) xs := rfl
            have e2 : mostP high (z :: xs) = mostP (if 0 < cmpP z high then z else high) xs := rfl
            rw [e1] at l1
            rw [e2] at l2
            have hx : ∀ x ∈ xs, Pn.Ok x := fun x hx => o3 x (by simp [hx])
            by_cases g1 : cmpP z low < 0
            · rw [if_pos g1] at l1
              by_cases g2 : 0 < cmpP z high
              · rw [if_pos g2] at l2
                simp (decide := true) only [↓ss_cons, ↓ss_nil, ↓s_set, ↓s_ret, ↓s_retN, ↓s_expr, ↓s_ife, ↓s_raise, ↓s_cnt, ↓s_brk, ↓s_pass, ↓s_setX, ↓s_for, ↓s_foS, ↓e_k, ↓e_tup, ↓e_lst, ↓e_call, ↓e_blt, ↓e_cmp, ↓e_bin, ↓e_neg, ↓e_and, ↓e_or, ↓e_not, ↓e_ite, ↓e_chain, ↓e_ix, ↓e_isi, ↓e_meth, ↓e_sl, ↓e_lam, ↓e_lc, ↓es_cons, ↓es_nil, ↓o_no, ↓b_add, ↓b_sub, ↓b_subB, ↓b_addB, ↓b_mul, ↓b_div, ↓b_mod, ↓b_pow, ↓b_addT, ↓b_mulT, ↓c_lt, ↓c_le, ↓c_gt, ↓c_ge, ↓c_isB, ↓c_isNotB, ↓c_isN, ↓c_isNotN, ↓t_abs, ↓t_int, ↓t_intB, ↓t_len, ↓t_min, ↓t_max, ↓t_tupT, ↓t_lstT, ↓i_v, ↓i_tup, ↓i_lst, ↓i_call, ↓i_ix, ↓i_sl, ↓lc_nil, ↓lc_cons, ↓w_lcB, ↓fo_nil, ↓fo_cons, ↓ts_nil, ↓ts_cons, ↓t_all, ↓t_any, ↓t_tup, ↓wI_int, ↓wR_ok, ↓v_0, ↓v_1, ↓v_2, ↓v_3, ↓v_4, ↓v_5, ↓v_6, ↓v_7, ↓v_8, ↓v_9, ↓v_10, ↓v_11, ↓v_12, ↓v_13, ↓v_14, ↓v_15, ↓v_16, ↓v_17, ↓v_18, ↓v_19, ↓v_20, ↓v_21, ↓v_22, ↓v_23, ↓v_24, ↓v_25, ↓v_26, ↓v_27, ↓v_28, ↓v_29, ↓v_30, ↓v_31, ↓as_0, ↓as_1, ↓as_2, ↓as_3, ↓as_4, ↓as_5, ↓as_6, ↓as_7, ↓as_8, ↓as_9, ↓as_10, ↓as_11, ↓as_12, ↓as_13, ↓as_14, ↓as_15, ↓as_16, ↓as_17, ↓as_18, ↓as_19, ↓as_20, ↓as_21, ↓as_22, ↓as_23, ↓as_24, ↓as_25, ↓as_26, ↓as_27, ↓as_28, ↓as_29, ↓as_30, ↓as_31, ↓as_t, ↓as_n, ↓as_c, ↓x1_0, ↓x2_0, ↓x2_1, ↓x3_0, ↓x3_1, ↓x3_2, ↓x4_0, ↓x4_1, ↓x4_2, ↓x4_3, ↓x5_0, ↓x5_1, ↓x5_2, ↓x5_3, ↓x5_4, ↓gc_id, ↓gc_bl, ↓gc_bl2, ↓gc_bl3, ↓gc_i, ↓gc_i2, ↓gc_n, ↓gc_n2, ↓gc_ex, ↓gc_ex0, ↓gc_ex2, ↓ce_ii, ↓ce_bb, ↓ce_2, ↓ce_3, ↓cn_ii, ↓cn_bb, ↓cn_2, ↓cn_3, ↓pk_bl, ↓pk_int, ↓pk_tn, ↓pk_tc, ↓pk_non, ↓nb_bl, ↓nb_int, ↓yt_non, ↓yt_bl, ↓yt_int, ↓yt_str, ↓yt_tup, ↓wp_tup, List.length_cons, List.length_nil, lim, Nat.reduceAdd, Nat.reduceLeDiff, true_and, and_true, is_ii, is_ib, is_bi, is_bb, is_tt, is_lt, is_it, is_nt, is_st, is_ni, is_si, is_ti, is_li, Bool.not_true, Bool.not_false, Bool.false_eq_true, if_true, if_false, abs_eq, Int.cast_ofNat_Int, BEq.rfl, beq_iff_eq, Int.reduceBEq, Int.reduceLT, Int.reduceLE, Int.reduceNeg, Int.reduceEq, List.all_cons, List.all_nil, id, Bool.and_true, Bool.true_and, Bool.and_self, same_nil', oc_some, oc_none, bls, wBs_some, wipe, Option.map_some, List.set_cons_zero, List.set_cons_succ, decide_true, decide_false, ↓reduceIte, decide_eq_true_eq, Bool.not_eq_true', ↓p_0, ↓p_1, ↓p_2, ↓p_len, ↓p_eq, ↓p_ne, ↓p_ty, ↓p_items, ↓e_rv, ↓rv_2, mulOk_sm, List.set_cons_succ, List.set_cons_zero, ↓w_of _ _ (lcompared_e _ _ _ _), g1, g2]
                exact ⟨some z.d, z, z, rfl, inferInstance, inferInstance, hx, l1, l2⟩
              · rw [if_neg g2] at l2
                simp (decide := true) only [↓ss_cons, ↓ss_nil, ↓s_set, ↓s_ret, ↓s_retN, ↓s_expr, ↓s_ife, ↓s_raise, ↓s_cnt, ↓s_brk, ↓s_pass, ↓s_setX, ↓s_for, ↓s_foS, ↓e_k, ↓e_tup, ↓e_lst, ↓e_call, ↓e_blt, ↓e_cmp, ↓e_bin, ↓e_neg, ↓e_and, ↓e_or, ↓e_not, ↓e_ite, ↓e_chain, ↓e_ix, ↓e_isi, ↓e_meth, ↓e_sl, ↓e_lam, ↓e_lc, ↓es_cons, ↓es_nil, ↓o_no, ↓b_add, ↓b_sub, ↓b_subB, ↓b_addB, ↓b_mul, ↓b_div, ↓b_mod, ↓b_pow, ↓b_addT, ↓b_mulT, ↓c_lt, ↓c_le, ↓c_gt, ↓c_ge, ↓c_isB, ↓c_isNotB, ↓c_isN, ↓c_isNotN, ↓t_abs, ↓t_int, ↓t_intB, ↓t_len, ↓t_min, ↓t_max, ↓t_tupT, ↓t_lstT, ↓i_v, ↓i_tup, ↓i_lst, ↓i_call, ↓i_ix, ↓i_sl, ↓lc_nil, ↓lc_cons, ↓w_lcB, ↓fo_nil, ↓fo_cons, ↓ts_nil, ↓ts_cons, ↓t_all, ↓t_any, ↓t_tup, ↓wI_int, ↓wR_ok, ↓v_0, ↓v_1, ↓v_2, ↓v_3, ↓v_4, ↓v_5, ↓v_6, ↓v_7, ↓v_8, ↓v_9, ↓v_10, ↓v_11, ↓v_12, ↓v_13, ↓v_14, ↓v_15, ↓v_16, ↓v_17, ↓v_18, ↓v_19, ↓v_20, ↓v_21, ↓v_22, ↓v_23, ↓v_24, ↓v_25, ↓v_26, ↓v_27, ↓v_28, ↓v_29, ↓v_30, ↓v_31, ↓as_0, ↓as_1, ↓as_2, ↓as_3, ↓as_4, ↓as_5, ↓as_6, ↓as_7, ↓as_8, ↓as_9, ↓as_10, ↓as_11, ↓as_12, ↓as_13, ↓as_14, ↓as_15, ↓as_16, ↓as_17, ↓as_18, ↓as_19, ↓as_20, ↓as_21, ↓as_22, ↓as_23, ↓as_24, ↓as_25, ↓as_26, ↓as_27, ↓as_28, ↓as_29, ↓as_30, ↓as_31, ↓as_t, ↓as_n, ↓as_c, ↓x1_0, ↓x2_0, ↓x2_1, ↓x3_0, ↓x3_1, ↓x3_2, ↓x4_0, ↓x4_1, ↓x4_2, ↓x4_3, ↓x5_0, ↓x5_1, ↓x5_2, ↓x5_3, ↓x5_4, ↓gc_id, ↓gc_bl, ↓gc_bl2, ↓gc_bl3, ↓gc_i, ↓gc_i2, ↓gc_n, ↓gc_n2, ↓gc_ex, ↓gc_ex0, ↓gc_ex2, ↓ce_ii, ↓ce_bb, ↓ce_2, ↓ce_3, ↓cn_ii, ↓cn_bb, ↓cn_2, ↓cn_3, ↓pk_bl, ↓pk_int, ↓pk_tn, ↓pk_tc, ↓pk_non, ↓nb_bl, ↓nb_int, ↓yt_non, ↓yt_bl, ↓yt_int, ↓yt_str, ↓yt_tup, ↓wp_tup, List.length_cons, List.length_nil, lim, Nat.reduceAdd, Nat.reduceLeDiff, true_and, and_true, is_ii, is_ib, is_bi, is_bb, is_tt, is_lt, is_it, is_nt, is_st, is_ni, is_si, is_ti, is_li, Bool.not_true, Bool.not_false, Bool.false_eq_true, if_true, if_false, abs_eq, Int.cast_ofNat_Int, BEq.rfl, beq_iff_eq, Int.reduceBEq, Int.reduceLT, Int.reduceLE, Int.reduceNeg, Int.reduceEq, List.all_cons, List.all_nil, id, Bool.and_true, Bool.true_and, Bool.and_self, same_nil', oc_some, oc_none, bls, wBs_some, wipe, Option.map_some, List.set_cons_zero, List.set_cons_succ, decide_true, decide_false, ↓reduceIte, decide_eq_true_eq, Bool.not_eq_true', ↓p_0, ↓p_1, ↓p_2, ↓p_len, ↓p_eq, ↓p_ne, ↓p_ty, ↓p_items, ↓e_rv, ↓rv_2, mulOk_sm, List.set_cons_succ, List.set_cons_zero, ↓w_of _ _ (lcompared_e _ _ _ _), g1, g2]
                exact ⟨some z.d, z, high, rfl, inferInstance, inferInstance, hx, l1, l2⟩
            · rw [if_neg g1] at l1
              by_cases g2 : 0 < cmpP z high
              · rw [if_pos g2] at l2
                simp (decide := true) only [↓ss_cons, ↓ss_nil, ↓s_set, ↓s_ret, ↓s_retN, ↓s_expr, ↓s_ife, ↓s_raise, ↓s_cnt, ↓s_brk, ↓s_pass, ↓s_setX, ↓s_for, ↓s_foS, ↓e_k, ↓e_tup, ↓e_lst, ↓e_call, ↓e_blt, ↓e_cmp, ↓e_bin, ↓e_neg, ↓e_and, ↓e_or, ↓e_not, ↓e_ite, ↓e_chain, ↓e_ix, ↓e_isi, ↓e_meth, ↓e_sl, ↓e_lam, ↓e_lc, ↓es_cons, ↓es_nil, ↓o_no, ↓b_add, ↓b_sub, ↓b_subB, ↓b_addB, ↓b_mul, ↓b_div, ↓b_mod, ↓b_pow, ↓b_addT, ↓b_mulT, ↓c_lt, ↓c_le, ↓c_gt, ↓c_ge, ↓c_isB, ↓c_isNotB, ↓c_isN, ↓c_isNotN, ↓t_abs, ↓t_int, ↓t_intB, ↓t_len, ↓t_min, ↓t_max, ↓t_tupT, ↓t_lstT, ↓i_v, ↓i_tup, ↓i_lst, ↓i_call, ↓i_ix, ↓i_sl, ↓lc_nil, ↓lc_cons, ↓w_lcB, ↓fo_nil, ↓fo_cons, ↓ts_nil, ↓ts_cons, ↓t_all, ↓t_any, ↓t_tup, ↓wI_int, ↓wR_ok, ↓v_0, ↓v_1, ↓v_2, ↓v_3, ↓v_4, ↓v_5, ↓v_6, ↓v_7, ↓v_8, ↓v_9, ↓v_10, ↓v_11, ↓v_12, ↓v_13, ↓v_14, ↓v_15, ↓v_16, ↓v_17, ↓v_18, ↓v_19, ↓v_20, ↓v_21, ↓v_22, ↓v_23, ↓v_24, ↓v_25, ↓v_26, ↓v_27, ↓v_28, ↓v_29, ↓v_30, ↓v_31, ↓as_0, ↓as_1, ↓as_2, ↓as_3, ↓as_4, ↓as_5, ↓as_6, ↓as_7, ↓as_8, ↓as_9, ↓as_10, ↓as_11, ↓as_12, ↓as_13, ↓as_14, ↓as_15, ↓as_16, ↓as_17, ↓as_18, ↓as_19, ↓as_20, ↓as_21, ↓as_22, ↓as_23, ↓as_24, ↓as_25, ↓as_26, ↓as_27, ↓as_28, ↓as_29, ↓as_30, ↓as_31, ↓as_t, ↓as_n, ↓as_c, ↓x1_0, ↓x2_0, ↓x2_1, ↓x3_0, ↓x3_1, ↓x3_2, ↓x4_0, ↓x4_1, ↓x4_2, ↓x4_3, ↓x5_0, ↓x5_1, ↓x5_2, ↓x5_3, ↓x5_4, ↓gc_id, ↓gc_bl, ↓gc_bl2, ↓gc_bl3, ↓gc_i, ↓gc_i2, ↓gc_n, ↓gc_n2, ↓gc_ex, ↓gc_ex0, ↓gc_ex2, ↓ce_ii, ↓ce_bb, ↓ce_2, ↓ce_3, ↓cn_ii, ↓cn_bb, ↓cn_2, ↓cn_3, ↓pk_bl, ↓pk_int, ↓pk_tn, ↓pk_tc, ↓pk_non, ↓nb_bl, ↓nb_int, ↓yt_non, ↓yt_bl, ↓yt_int, ↓yt_str, ↓yt_tup, ↓wp_tup, List.length_cons, List.length_nil, lim, Nat.reduceAdd, Nat.reduceLeDiff, true_and, and_true, is_ii, is_ib, is_bi, is_bb, is_tt, is_lt, is_it, is_nt, is_st, is_ni, is_si, is_ti, is_li, Bool.not_true, Bool.not_false, Bool.false_eq_true, if_true, if_false, abs_eq, Int.cast_ofNat_Int, BEq.rfl, beq_iff_eq, Int.reduceBEq, Int.reduceLT, Int.reduceLE, Int.reduceNeg, Int.reduceEq, List.all_cons, List.all_nil, id, Bool.and_true, Bool.true_and, Bool.and_self, same_nil', oc_some, oc_none, bls, wBs_some, wipe, Option.map_some, List.set_cons_zero, List.set_cons_succ, decide_true, decide_false, ↓reduceIte, decide_eq_true_eq, Bool.not_eq_true', ↓p_0, ↓p_1, ↓p_2, ↓p_len, ↓p_eq, ↓p_ne, ↓p_ty, ↓p_items, ↓e_rv, ↓rv_2, mulOk_sm, List.set_cons_succ, List.set_cons_zero, ↓w_of _ _ (lcompared_e _ _ _ _), g1, g2]
                exact ⟨some z.d, low, z, rfl, inferInstance, inferInstance, hx, l1, l2⟩
              · rw [if_neg g2] at l2
                simp (decide := true) only [↓ss_cons, ↓ss_nil, ↓s_set, ↓s_ret, ↓s_retN, ↓s_expr, ↓s_ife, ↓s_raise, ↓s_cnt, ↓s_brk, ↓s_pass, ↓s_setX, ↓s_for, ↓s_foS, ↓e_k, ↓e_tup, ↓e_lst, ↓e_call, ↓e_blt, ↓e_cmp, ↓e_bin, ↓e_neg, ↓e_and, ↓e_or, ↓e_not, ↓e_ite, ↓e_chain, ↓e_ix, ↓e_isi, ↓e_meth, ↓e_sl, ↓e_lam, ↓e_lc, ↓es_cons, ↓es_nil, ↓o_no, ↓b_add, ↓b_sub, ↓b_subB, ↓b_addB, ↓b_mul, ↓b_div, ↓b_mod, ↓b_pow, ↓b_addT, ↓b_mulT, ↓c_lt, ↓c_le, ↓c_gt, ↓c_ge, ↓c_isB, ↓c_isNotB, ↓c_isN, ↓c_isNotN, ↓t_abs, ↓t_int, ↓t_intB, ↓t_len, ↓t_min, ↓t_max, ↓t_tupT, ↓t_lstT, ↓i_v, ↓i_tup, ↓i_lst, ↓i_call, ↓i_ix, ↓i_sl, ↓lc_nil, ↓lc_cons, ↓w_lcB, ↓fo_nil, ↓fo_cons, ↓ts_nil, ↓ts_cons, ↓t_all, ↓t_any, ↓t_tup, ↓wI_int, ↓wR_ok, ↓v_0, ↓v_1, ↓v_2, ↓v_3, ↓v_4, ↓v_5, ↓v_6, ↓v_7, ↓v_8, ↓v_9, ↓v_10, ↓v_11, ↓v_12, ↓v_13, ↓v_14, ↓v_15, ↓v_16, ↓v_17, ↓v_18, ↓v_19, ↓v_20, ↓v_21, ↓v_22, ↓v_23, ↓v_24, ↓v_25, ↓v_26, ↓v_27, ↓v_28, ↓v_29, ↓v_30, ↓v_31, ↓as_0, ↓as_1, ↓as_2, ↓as_3, ↓as_4, ↓as_5, ↓as_6, ↓as_7, ↓as_8, ↓as_9, ↓as_10, ↓as_11, ↓as_12, ↓as_13, ↓as_14, ↓as_15, ↓as_16, ↓as_17, ↓as_18, ↓as_19, ↓as_20, ↓as_21, ↓as_22, ↓as_23, ↓as_24, ↓as_25, ↓as_26, ↓as_27, ↓as_28, ↓as_29, ↓as_30, ↓as_31, ↓as_t, ↓as_n, ↓as_c, ↓x1_0, ↓x2_0, ↓x2_1, ↓x3_0, ↓x3_1, ↓x3_2, ↓x4_0, ↓x4_1, ↓x4_2, ↓x4_3, ↓x5_0, ↓x5_1, ↓x5_2, ↓x5_3, ↓x5_4, ↓gc_id, ↓gc_bl, ↓gc_bl2, ↓gc_bl3, ↓gc_i, ↓gc_i2, ↓gc_n, ↓gc_n2, ↓gc_ex, ↓gc_ex0, ↓gc_ex2, ↓ce_ii, ↓ce_bb, ↓ce_2, ↓ce_3, ↓cn_ii, ↓cn_bb, ↓cn_2, ↓cn_3, ↓pk_bl, ↓pk_int, ↓pk_tn, ↓pk_tc, ↓pk_non, ↓nb_bl, ↓nb_int, ↓yt_non, ↓yt_bl, ↓yt_int, ↓yt_str, ↓yt_tup, ↓wp_tup, List.length_cons, List.length_nil, lim, Nat.reduceAdd, Nat.reduceLeDiff, true_and, and_true, is_ii, is_ib, is_bi, is_bb, is_tt, is_lt, is_it, is_nt, is_st, is_ni, is_si, is_ti, is_li, Bool.not_true, Bool.not_false, Bool.false_eq_true, if_true, if_false, abs_eq, Int.cast_ofNat_Int, BEq.rfl, beq_iff_eq, Int.reduceBEq, Int.reduceLT, Int.reduceLE, Int.reduceNeg, Int.reduceEq, List.all_cons, List.all_nil, id, Bool.and_true, Bool.true_and, Bool.and_self, same_nil', oc_some, oc_none, bls, wBs_some, wipe, Option.map_some, List.set_cons_zero, List.set_cons_succ, decide_true, decide_false, ↓reduceIte, decide_eq_true_eq, Bool.not_eq_true', ↓p_0, ↓p_1, ↓p_2, ↓p_len, ↓p_eq, ↓p_ne, ↓p_ty, ↓p_items, ↓e_rv, ↓rv_2, mulOk_sm, List.set_cons_succ, List.set_cons_zero, ↓w_of _ _ (lcompared_e _ _ _ _), g1, g2]
                exact ⟨some z.d, low, high, rfl, inferInstance, inferInstance, hx, l1, l2⟩
          · rintro ρ' ⟨z, low, high, rfl, o1, o2, o3, l1, l2⟩
            refine hI _ _ ⟨⟨z, ?_⟩, rfl⟩
            rw [← l1, ← l2]; rfl
        rintro _ c' ⟨⟨z, rfl⟩, h0⟩
        rw [h0]; clear h0 c'
        dsimp only at hQ
        have hgc : ∀ r : Res, wR (gcR c (.ok r.D C)) Q E = Q r.D c := fun r => by
          rw [← hC, List.append_assoc, gc_app _ _ _ _ _ (Res.nr _)]
        generalize leastP e (e :: r) = low at *
        generalize mostP e (e :: r) = high at *
        by_cases g : low = high
        · rw [if_pos g] at hQ
          subst g
          simp (decide := true) only [↓ss_cons, ↓ss_nil, ↓s_set, ↓s_ret, ↓s_retN, ↓s_expr, ↓s_ife, ↓s_raise, ↓s_cnt, ↓s_brk, ↓s_pass, ↓s_setX, ↓s_for, ↓s_foS, ↓e_k, ↓e_tup, ↓e_lst, ↓e_call, ↓e_blt, ↓e_cmp, ↓e_bin, ↓e_neg, ↓e_and, ↓e_or, ↓e_not, ↓e_ite, ↓e_chain, ↓e_ix, ↓e_isi, ↓e_meth, ↓e_sl, ↓e_lam, ↓e_lc, ↓es_cons, ↓es_nil, ↓o_no, ↓b_add, ↓b_sub, ↓b_subB, ↓b_addB, ↓b_mul, ↓b_div, ↓b_mod, ↓b_pow, ↓b_addT, ↓b_mulT, ↓c_lt, ↓c_le, ↓c_gt, ↓c_ge, ↓c_isB, ↓c_isNotB, ↓c_isN, ↓c_isNotN, ↓t_abs, ↓t_int, ↓t_intB, ↓t_len, ↓t_min, ↓t_max, ↓t_tupT, ↓t_lstT, ↓i_v, ↓i_tup, ↓i_lst, ↓i_call, ↓i_ix, ↓i_sl, ↓lc_nil, ↓lc_cons, ↓w_lcB, ↓fo_nil, ↓fo_cons, ↓ts_nil, ↓ts_cons, ↓t_all, ↓t_any, ↓t_tup, ↓wI_int, ↓wR_ok, ↓v_0, ↓v_1, ↓v_2, ↓v_3, ↓v_4, ↓v_5, ↓v_6, ↓v_7, ↓v_8, ↓v_9, ↓v_10, ↓v_11, ↓v_12, ↓v_13, ↓v_14, ↓v_15, ↓v_16, ↓v_17, ↓v_18, ↓v_19, ↓v_20, ↓v_21, ↓v_22, ↓v_23, ↓v_24, ↓v_25, ↓v_26, ↓v_27, ↓v_28, ↓v_29, ↓v_30, ↓v_31, ↓as_0, ↓as_1, ↓as_2, ↓as_3, ↓as_4, ↓as_5, ↓as_6, ↓as_7, ↓as_8, ↓as_9, ↓as_10, ↓as_11, ↓as_12, ↓as_13, ↓as_14, ↓as_15, ↓as_16, ↓as_17, ↓as_18, ↓as_19, ↓as_20, ↓as_21, ↓as_22, ↓as_23, ↓as_24, ↓as_25, ↓as_26, ↓as_27, ↓as_28, ↓as_29, ↓as_30, ↓as_31, ↓as_t, ↓as_n, ↓as_c, ↓x1_0, ↓x2_0, ↓x2_1, ↓x3_0, ↓x3_1, ↓x3_2, ↓x4_0, ↓x4_1, ↓x4_2, ↓x4_3, ↓x5_0, ↓x5_1, ↓x5_2, ↓x5_3, ↓x5_4, ↓gc_id, ↓gc_bl, ↓gc_bl2, ↓gc_bl3, ↓gc_i, ↓gc_i2, ↓gc_n, ↓gc_n2, ↓gc_ex, ↓gc_ex0, ↓gc_ex2, ↓ce_ii, ↓ce_bb, ↓ce_2, ↓ce_3, ↓cn_ii, ↓cn_bb, ↓cn_2, ↓cn_3, ↓pk_bl, ↓pk_int, ↓pk_tn, ↓pk_tc, ↓pk_non, ↓nb_bl, ↓nb_int, ↓yt_non, ↓yt_bl, ↓yt_int, ↓yt_str, ↓yt_tup, ↓wp_tup, List.length_cons, List.length_nil, lim, Nat.reduceAdd, Nat.reduceLeDiff, true_and, and_true, is_ii, is_ib, is_bi, is_bb, is_tt, is_lt, is_it, is_nt, is_st, is_ni, is_si, is_ti, is_li, Bool.not_true, Bool.not_false, Bool.false_eq_true, if_true, if_false, abs_eq, Int.cast_ofNat_Int, BEq.rfl, beq_iff_eq, Int.reduceBEq, Int.reduceLT, Int.reduceLE, Int.reduceNeg, Int.reduceEq, List.all_cons, List.all_nil, id, Bool.and_true, Bool.true_and, Bool.and_self, same_nil', oc_some, oc_none, bls, wBs_some, wipe, Option.map_some, List.set_cons_zero, List.set_cons_succ, decide_true, decide_false, ↓reduceIte, decide_eq_true_eq, Bool.not_eq_true', ↓p_0, ↓p_1, ↓p_2, ↓p_len, ↓p_eq, ↓p_ne, ↓p_ty, ↓p_items, ↓e_rv, ↓rv_2, mulOk_sm, List.set_cons_succ, List.set_cons_zero]
          exact (hgc (.pt low)).mpr hQ
        · rw [if_neg g] at hQ
          simp (decide := true) only [↓ss_cons, ↓ss_nil, ↓s_set, ↓s_ret, ↓s_retN, ↓s_expr, ↓s_ife, ↓s_raise, ↓s_cnt, ↓s_brk, ↓s_pass, ↓s_setX, ↓s_for, ↓s_foS, ↓e_k, ↓e_tup, ↓e_lst, ↓e_call, ↓e_blt, ↓e_cmp, ↓e_bin, ↓e_neg, ↓e_and, ↓e_or, ↓e_not, ↓e_ite, ↓e_chain, ↓e_ix, ↓e_isi, ↓e_meth, ↓e_sl, ↓e_lam, ↓e_lc, ↓es_cons, ↓es_nil, ↓o_no, ↓b_add, ↓b_sub, ↓b_subB, ↓b_addB, ↓b_mul, ↓b_div, ↓b_mod, ↓b_pow, ↓b_addT, ↓b_mulT, ↓c_lt, ↓c_le, ↓c_gt, ↓c_ge, ↓c_isB, ↓c_isNotB, ↓c_isN, ↓c_isNotN, ↓t_abs, ↓t_int, ↓t_intB, ↓t_len, ↓t_min, ↓t_max, ↓t_tupT, ↓t_lstT, ↓i_v, ↓i_tup, ↓i_lst, ↓i_call, ↓i_ix, ↓i_sl, ↓lc_nil, ↓lc_cons, ↓w_lcB, ↓fo_nil, ↓fo_cons, ↓ts_nil, ↓ts_cons, ↓t_all, ↓t_any, ↓t_tup, ↓wI_int, ↓wR_ok, ↓v_0, ↓v_1, ↓v_2, ↓v_3, ↓v_4, ↓v_5, ↓v_6, ↓v_7, ↓v_8, ↓v_9, ↓v_10, ↓v_11, ↓v_12, ↓v_13, ↓v_14, ↓v_15, ↓v_16, ↓v_17, ↓v_18, ↓v_19, ↓v_20, ↓v_21, ↓v_22, ↓v_23, ↓v_24, ↓v_25, ↓v_26, ↓v_27, ↓v_28, ↓v_29, ↓v_30, ↓v_31, ↓as_0, ↓as_1, ↓as_2, ↓as_3, ↓as_4, ↓as_5, ↓as_6, ↓as_7, ↓as_8, ↓as_9, ↓as_10, ↓as_11, ↓as_12, ↓as_13, ↓as_14, ↓as_15, ↓as_16, ↓as_17, ↓as_18, ↓as_19, ↓as_20, ↓as_21, ↓as_22, ↓as_23, ↓as_24, ↓as_25, ↓as_26, ↓as_27, ↓as_28, ↓as_29, ↓as_30, ↓as_31, ↓as_t, ↓as_n, ↓as_c, ↓x1_0, ↓x2_0, ↓x2_1, ↓x3_0, ↓x3_1, ↓x3_2, ↓x4_0, ↓x4_1, ↓x4_2, ↓x4_3, ↓x5_0, ↓x5_1, ↓x5_2, ↓x5_3, ↓x5_4, ↓gc_id, ↓gc_bl, ↓gc_bl2, ↓gc_bl3, ↓gc_i, ↓gc_i2, ↓gc_n, ↓gc_n2, ↓gc_ex, ↓gc_ex0, ↓gc_ex2, ↓ce_ii, ↓ce_bb, ↓ce_2, ↓ce_3, ↓cn_ii, ↓cn_bb, ↓cn_2, ↓cn_3, ↓pk_bl, ↓pk_int, ↓pk_tn, ↓pk_tc, ↓pk_non, ↓nb_bl, ↓nb_int, ↓yt_non, ↓yt_bl, ↓yt_int, ↓yt_str, ↓yt_tup, ↓wp_tup, List.length_cons, List.length_nil, lim, Nat.reduceAdd, Nat.reduceLeDiff, true_and, and_true, is_ii, is_ib, is_bi, is_bb, is_tt, is_lt, is_it, is_nt, is_st, is_ni, is_si, is_ti, is_li, Bool.not_true, Bool.not_false, Bool.false_eq_true, if_true, if_false, abs_eq, Int.cast_ofNat_Int, BEq.rfl, beq_iff_eq, Int.reduceBEq, Int.reduceLT, Int.reduceLE, Int.reduceNeg, Int.reduceEq, List.all_cons, List.all_nil, id, Bool.and_true, Bool.true_and, Bool.and_self, same_nil', oc_some, oc_none, bls, wBs_some, wipe, Option.map_some, List.set_cons_zero, List.set_cons_succ, decide_true, decide_false, ↓reduceIte, decide_eq_true_eq, Bool.not_eq_true', ↓p_0, ↓p_1, ↓p_2, ↓p_len, ↓p_eq, ↓p_ne, ↓p_ty, ↓p_items, ↓e_rv, ↓rv_2, mulOk_sm, List.set_cons_succ, List.set_cons_zero, g]
          exact (hgc (.part low high)).mpr hQ
    · rw [if_pos hq] at hQ
      have hq' : (sQ a b x y == 0) = false := by simpa using hq
      simp (decide := true) only [↓ss_cons, ↓ss_nil, ↓s_set, ↓s_ret, ↓s_retN, ↓s_expr, ↓s_ife, ↓s_raise, ↓s_cnt, ↓s_brk, ↓s_pass, ↓s_setX, ↓s_for, ↓s_foS, ↓e_k, ↓e_tup, ↓e_lst, ↓e_call, ↓e_blt, ↓e_cmp, ↓e_bin, ↓e_neg, ↓e_and, ↓e_or, ↓e_not, ↓e_ite, ↓e_chain, ↓e_ix, ↓e_isi, ↓e_meth, ↓e_sl, ↓e_lam, ↓e_lc, ↓es_cons, ↓es_nil, ↓o_no, ↓b_add, ↓b_sub, ↓b_subB, ↓b_addB, ↓b_mul, ↓b_div, ↓b_mod, ↓b_pow, ↓b_addT, ↓b_mulT, ↓c_lt, ↓c_le, ↓c_gt, ↓c_ge, ↓c_isB, ↓c_isNotB, ↓c_isN, ↓c_isNotN, ↓t_abs, ↓t_int, ↓t_intB, ↓t_len, ↓t_min, ↓t_max, ↓t_tupT, ↓t_lstT, ↓i_v, ↓i_tup, ↓i_lst, ↓i_call, ↓i_ix, ↓i_sl, ↓lc_nil, ↓lc_cons, ↓w_lcB, ↓fo_nil, ↓fo_cons, ↓ts_nil, ↓ts_cons, ↓t_all, ↓t_any, ↓t_tup, ↓wI_int, ↓wR_ok, ↓v_0, ↓v_1, ↓v_2, ↓v_3, ↓v_4, ↓v_5, ↓v_6, ↓v_7, ↓v_8, ↓v_9, ↓v_10, ↓v_11, ↓v_12, ↓v_13, ↓v_14, ↓v_15, ↓v_16, ↓v_17, ↓v_18, ↓v_19, ↓v_20, ↓v_21, ↓v_22, ↓v_23, ↓v_24, ↓v_25, ↓v_26, ↓v_27, ↓v_28, ↓v_29, ↓v_30, ↓v_31, ↓as_0, ↓as_1, ↓as_2, ↓as_3, ↓as_4, ↓as_5, ↓as_6, ↓as_7, ↓as_8, ↓as_9, ↓as_10, ↓as_11, ↓as_12, ↓as_13, ↓as_14, ↓as_15, ↓as_16, ↓as_17, ↓as_18, ↓as_19, ↓as_20, ↓as_21, ↓as_22, ↓as_23, ↓as_24, ↓as_25, ↓as_26, ↓as_27, ↓as_28, ↓as_29, ↓as_30, ↓as_31, ↓as_t, ↓as_n, ↓as_c, ↓x1_0, ↓x2_0, ↓x2_1, ↓x3_0, ↓x3_1, ↓x3_2, ↓x4_0, ↓x4_1, ↓x4_2, ↓x4_3, ↓x5_0, ↓x5_1, ↓x5_2, ↓x5_3, ↓x5_4, ↓gc_id, ↓gc_bl, ↓gc_bl2, ↓gc_bl3, ↓gc_i, ↓gc_i2, ↓gc_n, ↓gc_n2, ↓gc_ex, ↓gc_ex0, ↓gc_ex2, ↓ce_ii, ↓ce_bb, ↓ce_2, ↓ce_3, ↓cn_ii, ↓cn_bb, ↓cn_2, ↓cn_3, ↓pk_bl, ↓pk_int, ↓pk_tn, ↓pk_tc, ↓pk_non, ↓nb_bl, ↓nb_int, ↓yt_non, ↓yt_bl, ↓yt_int, ↓yt_str, ↓yt_tup, ↓wp_tup, List.length_cons, List.length_nil, lim, Nat.reduceAdd, Nat.reduceLeDiff, true_and, and_true, is_ii, is_ib, is_bi, is_bb, is_tt, is_lt, is_it, is_nt, is_st, is_ni, is_si, is_ti, is_li, Bool.not_true, Bool.not_false, Bool.false_eq_true, if_true, if_false, abs_eq, Int.cast_ofNat_Int, BEq.rfl, beq_iff_eq, Int.reduceBEq, Int.reduceLT, Int.reduceLE, Int.reduceNeg, Int.reduceEq, List.all_cons, List.all_nil, id, Bool.and_true, Bool.true_and, Bool.and_self, same_nil', oc_some, oc_none, bls, wBs_some, wipe, Option.map_some, List.set_cons_zero, List.set_cons_succ, decide_true, decide_false, ↓reduceIte, decide_eq_true_eq, Bool.not_eq_true', ↓p_0, ↓p_1, ↓p_2, ↓p_len, ↓p_eq, ↓p_ne, ↓p_ty, ↓p_items, ↓e_rv, ↓rv_2, mulOk_sm, eQ, hq']
      exact hQ
  · rw [if_pos hw] at hQ
    rw [ss_cons, s_ife]
    have hw' : (sWhole a b x y == 0) = false := by simpa using hw
    simp (decide := true) only [↓e_cmp, ↓v_21, ↓e_k, ↓cn_ii, ↓pk_bl, hw', Bool.not_false, if_true]
    by_cases hn : sWhole a b x y < 0
    · rw [if_pos hn] at hQ
      have hm := fun X Y c => made_e (T := T) k c "_law_made" "_law_common" X Y (sw a b x y * -sWhole a b x y) (by decide) (by rw [Int.mul_neg]; intro z; rcases Int.mul_eq_zero.mp (show sw a b x y * sWhole a b x y = 0 by omega) with z | z <;> omega)
      by_cases g1 : 0 ≤ -sP a b x y
      · by_cases g2 : -sP a b x y ≤ -sWhole a b x y
        · by_cases g3 : 0 ≤ -sQ a b x y
          · by_cases g4 : -sQ a b x y ≤ -sWhole a b x y
            · rw [if_pos ⟨⟨g1, g2⟩, g3, g4⟩] at hQ
              simp (decide := true) only [↓ss_cons, ↓ss_nil, ↓s_set, ↓s_ret, ↓s_retN, ↓s_expr, ↓s_ife, ↓s_raise, ↓s_cnt, ↓s_brk, ↓s_pass, ↓s_setX, ↓s_for, ↓s_foS, ↓e_k, ↓e_tup, ↓e_lst, ↓e_call, ↓e_blt, ↓e_cmp, ↓e_bin, ↓e_neg, ↓e_and, ↓e_or, ↓e_not, ↓e_ite, ↓e_chain, ↓e_ix, ↓e_isi, ↓e_meth, ↓e_sl, ↓e_lam, ↓e_lc, ↓es_cons, ↓es_nil, ↓o_no, ↓b_add, ↓b_sub, ↓b_subB, ↓b_addB, ↓b_mul, ↓b_div, ↓b_mod, ↓b_pow, ↓b_addT, ↓b_mulT, ↓c_lt, ↓c_le, ↓c_gt, ↓c_ge, ↓c_isB, ↓c_isNotB, ↓c_isN, ↓c_isNotN, ↓t_abs, ↓t_int, ↓t_intB, ↓t_len, ↓t_min, ↓t_max, ↓t_tupT, ↓t_lstT, ↓i_v, ↓i_tup, ↓i_lst, ↓i_call, ↓i_ix, ↓i_sl, ↓lc_nil, ↓lc_cons, ↓w_lcB, ↓fo_nil, ↓fo_cons, ↓ts_nil, ↓ts_cons, ↓t_all, ↓t_any, ↓t_tup, ↓wI_int, ↓wR_ok, ↓v_0, ↓v_1, ↓v_2, ↓v_3, ↓v_4, ↓v_5, ↓v_6, ↓v_7, ↓v_8, ↓v_9, ↓v_10, ↓v_11, ↓v_12, ↓v_13, ↓v_14, ↓v_15, ↓v_16, ↓v_17, ↓v_18, ↓v_19, ↓v_20, ↓v_21, ↓v_22, ↓v_23, ↓v_24, ↓v_25, ↓v_26, ↓v_27, ↓v_28, ↓v_29, ↓v_30, ↓v_31, ↓as_0, ↓as_1, ↓as_2, ↓as_3, ↓as_4, ↓as_5, ↓as_6, ↓as_7, ↓as_8, ↓as_9, ↓as_10, ↓as_11, ↓as_12, ↓as_13, ↓as_14, ↓as_15, ↓as_16, ↓as_17, ↓as_18, ↓as_19, ↓as_20, ↓as_21, ↓as_22, ↓as_23, ↓as_24, ↓as_25, ↓as_26, ↓as_27, ↓as_28, ↓as_29, ↓as_30, ↓as_31, ↓as_t, ↓as_n, ↓as_c, ↓x1_0, ↓x2_0, ↓x2_1, ↓x3_0, ↓x3_1, ↓x3_2, ↓x4_0, ↓x4_1, ↓x4_2, ↓x4_3, ↓x5_0, ↓x5_1, ↓x5_2, ↓x5_3, ↓x5_4, ↓gc_id, ↓gc_bl, ↓gc_bl2, ↓gc_bl3, ↓gc_i, ↓gc_i2, ↓gc_n, ↓gc_n2, ↓gc_ex, ↓gc_ex0, ↓gc_ex2, ↓ce_ii, ↓ce_bb, ↓ce_2, ↓ce_3, ↓cn_ii, ↓cn_bb, ↓cn_2, ↓cn_3, ↓pk_bl, ↓pk_int, ↓pk_tn, ↓pk_tc, ↓pk_non, ↓nb_bl, ↓nb_int, ↓yt_non, ↓yt_bl, ↓yt_int, ↓yt_str, ↓yt_tup, ↓wp_tup, List.length_cons, List.length_nil, lim, Nat.reduceAdd, Nat.reduceLeDiff, true_and, and_true, is_ii, is_ib, is_bi, is_bb, is_tt, is_lt, is_it, is_nt, is_st, is_ni, is_si, is_ti, is_li, Bool.not_true, Bool.not_false, Bool.false_eq_true, if_true, if_false, abs_eq, Int.cast_ofNat_Int, BEq.rfl, beq_iff_eq, Int.reduceBEq, Int.reduceLT, Int.reduceLE, Int.reduceNeg, Int.reduceEq, List.all_cons, List.all_nil, id, Bool.and_true, Bool.true_and, Bool.and_self, same_nil', oc_some, oc_none, bls, wBs_some, wipe, Option.map_some, List.set_cons_zero, List.set_cons_succ, decide_true, decide_false, ↓reduceIte, decide_eq_true_eq, Bool.not_eq_true', ↓p_0, ↓p_1, ↓p_2, ↓p_len, ↓p_eq, ↓p_ne, ↓p_ty, ↓p_items, ↓e_rv, ↓rv_2, mulOk_sm, eP, eQ, hn, g1, g2, g3, g4, ↓w_of _ _ (hm _ _ _)]
              exact hQ
            · rw [if_neg (fun z => g4 z.2.2)] at hQ
              simp (decide := true) only [↓ss_cons, ↓ss_nil, ↓s_set, ↓s_ret, ↓s_retN, ↓s_expr, ↓s_ife, ↓s_raise, ↓s_cnt, ↓s_brk, ↓s_pass, ↓s_setX, ↓s_for, ↓s_foS, ↓e_k, ↓e_tup, ↓e_lst, ↓e_call, ↓e_blt, ↓e_cmp, ↓e_bin, ↓e_neg, ↓e_and, ↓e_or, ↓e_not, ↓e_ite, ↓e_chain, ↓e_ix, ↓e_isi, ↓e_meth, ↓e_sl, ↓e_lam, ↓e_lc, ↓es_cons, ↓es_nil, ↓o_no, ↓b_add, ↓b_sub, ↓b_subB, ↓b_addB, ↓b_mul, ↓b_div, ↓b_mod, ↓b_pow, ↓b_addT, ↓b_mulT, ↓c_lt, ↓c_le, ↓c_gt, ↓c_ge, ↓c_isB, ↓c_isNotB, ↓c_isN, ↓c_isNotN, ↓t_abs, ↓t_int, ↓t_intB, ↓t_len, ↓t_min, ↓t_max, ↓t_tupT, ↓t_lstT, ↓i_v, ↓i_tup, ↓i_lst, ↓i_call, ↓i_ix, ↓i_sl, ↓lc_nil, ↓lc_cons, ↓w_lcB, ↓fo_nil, ↓fo_cons, ↓ts_nil, ↓ts_cons, ↓t_all, ↓t_any, ↓t_tup, ↓wI_int, ↓wR_ok, ↓v_0, ↓v_1, ↓v_2, ↓v_3, ↓v_4, ↓v_5, ↓v_6, ↓v_7, ↓v_8, ↓v_9, ↓v_10, ↓v_11, ↓v_12, ↓v_13, ↓v_14, ↓v_15, ↓v_16, ↓v_17, ↓v_18, ↓v_19, ↓v_20, ↓v_21, ↓v_22, ↓v_23, ↓v_24, ↓v_25, ↓v_26, ↓v_27, ↓v_28, ↓v_29, ↓v_30, ↓v_31, ↓as_0, ↓as_1, ↓as_2, ↓as_3, ↓as_4, ↓as_5, ↓as_6, ↓as_7, ↓as_8, ↓as_9, ↓as_10, ↓as_11, ↓as_12, ↓as_13, ↓as_14, ↓as_15, ↓as_16, ↓as_17, ↓as_18, ↓as_19, ↓as_20, ↓as_21, ↓as_22, ↓as_23, ↓as_24, ↓as_25, ↓as_26, ↓as_27, ↓as_28, ↓as_29, ↓as_30, ↓as_31, ↓as_t, ↓as_n, ↓as_c, ↓x1_0, ↓x2_0, ↓x2_1, ↓x3_0, ↓x3_1, ↓x3_2, ↓x4_0, ↓x4_1, ↓x4_2, ↓x4_3, ↓x5_0, ↓x5_1, ↓x5_2, ↓x5_3, ↓x5_4, ↓gc_id, ↓gc_bl, ↓gc_bl2, ↓gc_bl3, ↓gc_i, ↓gc_i2, ↓gc_n, ↓gc_n2, ↓gc_ex, ↓gc_ex0, ↓gc_ex2, ↓ce_ii, ↓ce_bb, ↓ce_2, ↓ce_3, ↓cn_ii, ↓cn_bb, ↓cn_2, ↓cn_3, ↓pk_bl, ↓pk_int, ↓pk_tn, ↓pk_tc, ↓pk_non, ↓nb_bl, ↓nb_int, ↓yt_non, ↓yt_bl, ↓yt_int, ↓yt_str, ↓yt_tup, ↓wp_tup, List.length_cons, List.length_nil, lim, Nat.reduceAdd, Nat.reduceLeDiff, true_and, and_true, is_ii, is_ib, is_bi, is_bb, is_tt, is_lt, is_it, is_nt, is_st, is_ni, is_si, is_ti, is_li, Bool.not_true, Bool.not_false, Bool.false_eq_true, if_true, if_false, abs_eq, Int.cast_ofNat_Int, BEq.rfl, beq_iff_eq, Int.reduceBEq, Int.reduceLT, Int.reduceLE, Int.reduceNeg, Int.reduceEq, List.all_cons, List.all_nil, id, Bool.and_true, Bool.true_and, Bool.and_self, same_nil', oc_some, oc_none, bls, wBs_some, wipe, Option.map_some, List.set_cons_zero, List.set_cons_succ, decide_true, decide_false, ↓reduceIte, decide_eq_true_eq, Bool.not_eq_true', ↓p_0, ↓p_1, ↓p_2, ↓p_len, ↓p_eq, ↓p_ne, ↓p_ty, ↓p_items, ↓e_rv, ↓rv_2, mulOk_sm, eP, eQ, hn, g1, g2, g3, g4]
              exact hQ
          · rw [if_neg (fun z => g3 z.2.1)] at hQ
            simp (decide := true) only [↓ss_cons, ↓ss_nil, ↓s_set, ↓s_ret, ↓s_retN, ↓s_expr, ↓s_ife, ↓s_raise, ↓s_cnt, ↓s_brk, ↓s_pass, ↓s_setX, ↓s_for, ↓s_foS, ↓e_k, ↓e_tup, ↓e_lst, ↓e_call, ↓e_blt, ↓e_cmp, ↓e_bin, ↓e_neg, ↓e_and, ↓e_or, ↓e_not, ↓e_ite, ↓e_chain, ↓e_ix, ↓e_isi, ↓e_meth, ↓e_sl, ↓e_lam, ↓e_lc, ↓es_cons, ↓es_nil, ↓o_no, ↓b_add, ↓b_sub, ↓b_subB, ↓b_addB, ↓b_mul, ↓b_div, ↓b_mod, ↓b_pow, ↓b_addT, ↓b_mulT, ↓c_lt, ↓c_le, ↓c_gt, ↓c_ge, ↓c_isB, ↓c_isNotB, ↓c_isN, ↓c_isNotN, ↓t_abs, ↓t_int, ↓t_intB, ↓t_len, ↓t_min, ↓t_max, ↓t_tupT, ↓t_lstT, ↓i_v, ↓i_tup, ↓i_lst, ↓i_call, ↓i_ix, ↓i_sl, ↓lc_nil, ↓lc_cons, ↓w_lcB, ↓fo_nil, ↓fo_cons, ↓ts_nil, ↓ts_cons, ↓t_all, ↓t_any, ↓t_tup, ↓wI_int, ↓wR_ok, ↓v_0, ↓v_1, ↓v_2, ↓v_3, ↓v_4, ↓v_5, ↓v_6, ↓v_7, ↓v_8, ↓v_9, ↓v_10, ↓v_11, ↓v_12, ↓v_13, ↓v_14, ↓v_15, ↓v_16, ↓v_17, ↓v_18, ↓v_19, ↓v_20, ↓v_21, ↓v_22, ↓v_23, ↓v_24, ↓v_25, ↓v_26, ↓v_27, ↓v_28, ↓v_29, ↓v_30, ↓v_31, ↓as_0, ↓as_1, ↓as_2, ↓as_3, ↓as_4, ↓as_5, ↓as_6, ↓as_7, ↓as_8, ↓as_9, ↓as_10, ↓as_11, ↓as_12, ↓as_13, ↓as_14, ↓as_15, ↓as_16, ↓as_17, ↓as_18, ↓as_19, ↓as_20, ↓as_21, ↓as_22, ↓as_23, ↓as_24, ↓as_25, ↓as_26, ↓as_27, ↓as_28, ↓as_29, ↓as_30, ↓as_31, ↓as_t, ↓as_n, ↓as_c, ↓x1_0, ↓x2_0, ↓x2_1, ↓x3_0, ↓x3_1, ↓x3_2, ↓x4_0, ↓x4_1, ↓x4_2, ↓x4_3, ↓x5_0, ↓x5_1, ↓x5_2, ↓x5_3, ↓x5_4, ↓gc_id, ↓gc_bl, ↓gc_bl2, ↓gc_bl3, ↓gc_i, ↓gc_i2, ↓gc_n, ↓gc_n2, ↓gc_ex, ↓gc_ex0, ↓gc_ex2, ↓ce_ii, ↓ce_bb, ↓ce_2, ↓ce_3, ↓cn_ii, ↓cn_bb, ↓cn_2, ↓cn_3, ↓pk_bl, ↓pk_int, ↓pk_tn, ↓pk_tc, ↓pk_non, ↓nb_bl, ↓nb_int, ↓yt_non, ↓yt_bl, ↓yt_int, ↓yt_str, ↓yt_tup, ↓wp_tup, List.length_cons, List.length_nil, lim, Nat.reduceAdd, Nat.reduceLeDiff, true_and, and_true, is_ii, is_ib, is_bi, is_bb, is_tt, is_lt, is_it, is_nt, is_st, is_ni, is_si, is_ti, is_li, Bool.not_true, Bool.not_false, Bool.false_eq_true, if_true, if_false, abs_eq, Int.cast_ofNat_Int, BEq.rfl, beq_iff_eq, Int.reduceBEq, Int.reduceLT, Int.reduceLE, Int.reduceNeg, Int.reduceEq, List.all_cons, List.all_nil, id, Bool.and_true, Bool.true_and, Bool.and_self, same_nil', oc_some, oc_none, bls, wBs_some, wipe, Option.map_some, List.set_cons_zero, List.set_cons_succ, decide_true, decide_false, ↓reduceIte, decide_eq_true_eq, Bool.not_eq_true', ↓p_0, ↓p_1, ↓p_2, ↓p_len, ↓p_eq, ↓p_ne, ↓p_ty, ↓p_items, ↓e_rv, ↓rv_2, mulOk_sm, eP, eQ, hn, g1, g2, g3]
            exact hQ
        · rw [if_neg (fun z => g2 z.1.2)] at hQ
          simp (decide := true) only [↓ss_cons, ↓ss_nil, ↓s_set, ↓s_ret, ↓s_retN, ↓s_expr, ↓s_ife, ↓s_raise, ↓s_cnt, ↓s_brk, ↓s_pass, ↓s_setX, ↓s_for, ↓s_foS, ↓e_k, ↓e_tup, ↓e_lst, ↓e_call, ↓e_blt, ↓e_cmp, ↓e_bin, ↓e_neg, ↓e_and, ↓e_or, ↓e_not, ↓e_ite, ↓e_chain, ↓e_ix, ↓e_isi, ↓e_meth, ↓e_sl, ↓e_lam, ↓e_lc, ↓es_cons, ↓es_nil, ↓o_no, ↓b_add, ↓b_sub, ↓b_subB, ↓b_addB, ↓b_mul, ↓b_div, ↓b_mod, ↓b_pow, ↓b_addT, ↓b_mulT, ↓c_lt, ↓c_le, ↓c_gt, ↓c_ge, ↓c_isB, ↓c_isNotB, ↓c_isN, ↓c_isNotN, ↓t_abs, ↓t_int, ↓t_intB, ↓t_len, ↓t_min, ↓t_max, ↓t_tupT, ↓t_lstT, ↓i_v, ↓i_tup, ↓i_lst, ↓i_call, ↓i_ix, ↓i_sl, ↓lc_nil, ↓lc_cons, ↓w_lcB, ↓fo_nil, ↓fo_cons, ↓ts_nil, ↓ts_cons, ↓t_all, ↓t_any, ↓t_tup, ↓wI_int, ↓wR_ok, ↓v_0, ↓v_1, ↓v_2, ↓v_3, ↓v_4, ↓v_5, ↓v_6, ↓v_7, ↓v_8, ↓v_9, ↓v_10, ↓v_11, ↓v_12, ↓v_13, ↓v_14, ↓v_15, ↓v_16, ↓v_17, ↓v_18, ↓v_19, ↓v_20, ↓v_21, ↓v_22, ↓v_23, ↓v_24, ↓v_25, ↓v_26, ↓v_27, ↓v_28, ↓v_29, ↓v_30, ↓v_31, ↓as_0, ↓as_1, ↓as_2, ↓as_3, ↓as_4, ↓as_5, ↓as_6, ↓as_7, ↓as_8, ↓as_9, ↓as_10, ↓as_11, ↓as_12, ↓as_13, ↓as_14, ↓as_15, ↓as_16, ↓as_17, ↓as_18, ↓as_19, ↓as_20, ↓as_21, ↓as_22, ↓as_23, ↓as_24, ↓as_25, ↓as_26, ↓as_27, ↓as_28, ↓as_29, ↓as_30, ↓as_31, ↓as_t, ↓as_n, ↓as_c, ↓x1_0, ↓x2_0, ↓x2_1, ↓x3_0, ↓x3_1, ↓x3_2, ↓x4_0, ↓x4_1, ↓x4_2, ↓x4_3, ↓x5_0, ↓x5_1, ↓x5_2, ↓x5_3, ↓x5_4, ↓gc_id, ↓gc_bl, ↓gc_bl2, ↓gc_bl3, ↓gc_i, ↓gc_i2, ↓gc_n, ↓gc_n2, ↓gc_ex, ↓gc_ex0, ↓gc_ex2, ↓ce_ii, ↓ce_bb, ↓ce_2, ↓ce_3, ↓cn_ii, ↓cn_bb, ↓cn_2, ↓cn_3, ↓pk_bl, ↓pk_int, ↓pk_tn, ↓pk_tc, ↓pk_non, ↓nb_bl, ↓nb_int, ↓yt_non, ↓yt_bl, ↓yt_int, ↓yt_str, ↓yt_tup, ↓wp_tup, List.length_cons, List.length_nil, lim, Nat.reduceAdd, Nat.reduceLeDiff, true_and, and_true, is_ii, is_ib, is_bi, is_bb, is_tt, is_lt, is_it, is_nt, is_st, is_ni, is_si, is_ti, is_li, Bool.not_true, Bool.not_false, Bool.false_eq_true, if_true, if_false, abs_eq, Int.cast_ofNat_Int, BEq.rfl, beq_iff_eq, Int.reduceBEq, Int.reduceLT, Int.reduceLE, Int.reduceNeg, Int.reduceEq, List.all_cons, List.all_nil, id, Bool.and_true, Bool.true_and, Bool.and_self, same_nil', oc_some, oc_none, bls, wBs_some, wipe, Option.map_some, List.set_cons_zero, List.set_cons_succ, decide_true, decide_false, ↓reduceIte, decide_eq_true_eq, Bool.not_eq_true', ↓p_0, ↓p_1, ↓p_2, ↓p_len, ↓p_eq, ↓p_ne, ↓p_ty, ↓p_items, ↓e_rv, ↓rv_2, mulOk_sm, eP, eQ, hn, g1, g2]
          exact hQ
      · rw [if_neg (fun z => g1 z.1.1)] at hQ
        simp (decide := true) only [↓ss_cons, ↓ss_nil, ↓s_set, ↓s_ret, ↓s_retN, ↓s_expr, ↓s_ife, ↓s_raise, ↓s_cnt, ↓s_brk, ↓s_pass, ↓s_setX, ↓s_for, ↓s_foS, ↓e_k, ↓e_tup, ↓e_lst, ↓e_call, ↓e_blt, ↓e_cmp, ↓e_bin, ↓e_neg, ↓e_and, ↓e_or, ↓e_not, ↓e_ite, ↓e_chain, ↓e_ix, ↓e_isi, ↓e_meth, ↓e_sl, ↓e_lam, ↓e_lc, ↓es_cons, ↓es_nil, ↓o_no, ↓b_add, ↓b_sub, ↓b_subB, ↓b_addB, ↓b_mul, ↓b_div, ↓b_mod, ↓b_pow, ↓b_addT, ↓b_mulT, ↓c_lt, ↓c_le, ↓c_gt, ↓c_ge, ↓c_isB, ↓c_isNotB, ↓c_isN, ↓c_isNotN, ↓t_abs, ↓t_int, ↓t_intB, ↓t_len, ↓t_min, ↓t_max, ↓t_tupT, ↓t_lstT, ↓i_v, ↓i_tup, ↓i_lst, ↓i_call, ↓i_ix, ↓i_sl, ↓lc_nil, ↓lc_cons, ↓w_lcB, ↓fo_nil, ↓fo_cons, ↓ts_nil, ↓ts_cons, ↓t_all, ↓t_any, ↓t_tup, ↓wI_int, ↓wR_ok, ↓v_0, ↓v_1, ↓v_2, ↓v_3, ↓v_4, ↓v_5, ↓v_6, ↓v_7, ↓v_8, ↓v_9, ↓v_10, ↓v_11, ↓v_12, ↓v_13, ↓v_14, ↓v_15, ↓v_16, ↓v_17, ↓v_18, ↓v_19, ↓v_20, ↓v_21, ↓v_22, ↓v_23, ↓v_24, ↓v_25, ↓v_26, ↓v_27, ↓v_28, ↓v_29, ↓v_30, ↓v_31, ↓as_0, ↓as_1, ↓as_2, ↓as_3, ↓as_4, ↓as_5, ↓as_6, ↓as_7, ↓as_8, ↓as_9, ↓as_10, ↓as_11, ↓as_12, ↓as_13, ↓as_14, ↓as_15, ↓as_16, ↓as_17, ↓as_18, ↓as_19, ↓as_20, ↓as_21, ↓as_22, ↓as_23, ↓as_24, ↓as_25, ↓as_26, ↓as_27, ↓as_28, ↓as_29, ↓as_30, ↓as_31, ↓as_t, ↓as_n, ↓as_c, ↓x1_0, ↓x2_0, ↓x2_1, ↓x3_0, ↓x3_1, ↓x3_2, ↓x4_0, ↓x4_1, ↓x4_2, ↓x4_3, ↓x5_0, ↓x5_1, ↓x5_2, ↓x5_3, ↓x5_4, ↓gc_id, ↓gc_bl, ↓gc_bl2, ↓gc_bl3, ↓gc_i, ↓gc_i2, ↓gc_n, ↓gc_n2, ↓gc_ex, ↓gc_ex0, ↓gc_ex2, ↓ce_ii, ↓ce_bb, ↓ce_2, ↓ce_3, ↓cn_ii, ↓cn_bb, ↓cn_2, ↓cn_3, ↓pk_bl, ↓pk_int, ↓pk_tn, ↓pk_tc, ↓pk_non, ↓nb_bl, ↓nb_int, ↓yt_non, ↓yt_bl, ↓yt_int, ↓yt_str, ↓yt_tup, ↓wp_tup, List.length_cons, List.length_nil, lim, Nat.reduceAdd, Nat.reduceLeDiff, true_and, and_true, is_ii, is_ib, is_bi, is_bb, is_tt, is_lt, is_it, is_nt, is_st, is_ni, is_si, is_ti, is_li, Bool.not_true, Bool.not_false, Bool.false_eq_true, if_true, if_false, abs_eq, Int.cast_ofNat_Int, BEq.rfl, beq_iff_eq, Int.reduceBEq, Int.reduceLT, Int.reduceLE, Int.reduceNeg, Int.reduceEq, List.all_cons, List.all_nil, id, Bool.and_true, Bool.true_and, Bool.and_self, same_nil', oc_some, oc_none, bls, wBs_some, wipe, Option.map_some, List.set_cons_zero, List.set_cons_succ, decide_true, decide_false, ↓reduceIte, decide_eq_true_eq, Bool.not_eq_true', ↓p_0, ↓p_1, ↓p_2, ↓p_len, ↓p_eq, ↓p_ne, ↓p_ty, ↓p_items, ↓e_rv, ↓rv_2, mulOk_sm, eP, eQ, hn, g1]
        exact hQ
    · rw [if_neg hn] at hQ
      have hm := fun X Y c => made_e (T := T) k c "_law_made" "_law_common" X Y (sw a b x y * sWhole a b x y) (by decide) (by intro z; rcases Int.mul_eq_zero.mp z with z | z <;> omega)
      by_cases g1 : 0 ≤ sP a b x y
      · by_cases g2 : sP a b x y ≤ sWhole a b x y
        · by_cases g3 : 0 ≤ sQ a b x y
          · by_cases g4 : sQ a b x y ≤ sWhole a b x y
            · rw [if_pos ⟨⟨g1, g2⟩, g3, g4⟩] at hQ
              simp (decide := true) only [↓ss_cons, ↓ss_nil, ↓s_set, ↓s_ret, ↓s_retN, ↓s_expr, ↓s_ife, ↓s_raise, ↓s_cnt, ↓s_brk, ↓s_pass, ↓s_setX, ↓s_for, ↓s_foS, ↓e_k, ↓e_tup, ↓e_lst, ↓e_call, ↓e_blt, ↓e_cmp, ↓e_bin, ↓e_neg, ↓e_and, ↓e_or, ↓e_not, ↓e_ite, ↓e_chain, ↓e_ix, ↓e_isi, ↓e_meth, ↓e_sl, ↓e_lam, ↓e_lc, ↓es_cons, ↓es_nil, ↓o_no, ↓b_add, ↓b_sub, ↓b_subB, ↓b_addB, ↓b_mul, ↓b_div, ↓b_mod, ↓b_pow, ↓b_addT, ↓b_mulT, ↓c_lt, ↓c_le, ↓c_gt, ↓c_ge, ↓c_isB, ↓c_isNotB, ↓c_isN, ↓c_isNotN, ↓t_abs, ↓t_int, ↓t_intB, ↓t_len, ↓t_min, ↓t_max, ↓t_tupT, ↓t_lstT, ↓i_v, ↓i_tup, ↓i_lst, ↓i_call, ↓i_ix, ↓i_sl, ↓lc_nil, ↓lc_cons, ↓w_lcB, ↓fo_nil, ↓fo_cons, ↓ts_nil, ↓ts_cons, ↓t_all, ↓t_any, ↓t_tup, ↓wI_int, ↓wR_ok, ↓v_0, ↓v_1, ↓v_2, ↓v_3, ↓v_4, ↓v_5, ↓v_6, ↓v_7, ↓v_8, ↓v_9, ↓v_10, ↓v_11, ↓v_12, ↓v_13, ↓v_14, ↓v_15, ↓v_16, ↓v_17, ↓v_18, ↓v_19, ↓v_20, ↓v_21, ↓v_22, ↓v_23, ↓v_24, ↓v_25, ↓v_26, ↓v_27, ↓v_28, ↓v_29, ↓v_30, ↓v_31, ↓as_0, ↓as_1, ↓as_2, ↓as_3, ↓as_4, ↓as_5, ↓as_6, ↓as_7, ↓as_8, ↓as_9, ↓as_10, ↓as_11, ↓as_12, ↓as_13, ↓as_14, ↓as_15, ↓as_16, ↓as_17, ↓as_18, ↓as_19, ↓as_20, ↓as_21, ↓as_22, ↓as_23, ↓as_24, ↓as_25, ↓as_26, ↓as_27, ↓as_28, ↓as_29, ↓as_30, ↓as_31, ↓as_t, ↓as_n, ↓as_c, ↓x1_0, ↓x2_0, ↓x2_1, ↓x3_0, ↓x3_1, ↓x3_2, ↓x4_0, ↓x4_1, ↓x4_2, ↓x4_3, ↓x5_0, ↓x5_1, ↓x5_2, ↓x5_3, ↓x5_4, ↓gc_id, ↓gc_bl, ↓gc_bl2, ↓gc_bl3, ↓gc_i, ↓gc_i2, ↓gc_n, ↓gc_n2, ↓gc_ex, ↓gc_ex0, ↓gc_ex2, ↓ce_ii, ↓ce_bb, ↓ce_2, ↓ce_3, ↓cn_ii, ↓cn_bb, ↓cn_2, ↓cn_3, ↓pk_bl, ↓pk_int, ↓pk_tn, ↓pk_tc, ↓pk_non, ↓nb_bl, ↓nb_int, ↓yt_non, ↓yt_bl, ↓yt_int, ↓yt_str, ↓yt_tup, ↓wp_tup, List.length_cons, List.length_nil, lim, Nat.reduceAdd, Nat.reduceLeDiff, true_and, and_true, is_ii, is_ib, is_bi, is_bb, is_tt, is_lt, is_it, is_nt, is_st, is_ni, is_si, is_ti, is_li, Bool.not_true, Bool.not_false, Bool.false_eq_true, if_true, if_false, abs_eq, Int.cast_ofNat_Int, BEq.rfl, beq_iff_eq, Int.reduceBEq, Int.reduceLT, Int.reduceLE, Int.reduceNeg, Int.reduceEq, List.all_cons, List.all_nil, id, Bool.and_true, Bool.true_and, Bool.and_self, same_nil', oc_some, oc_none, bls, wBs_some, wipe, Option.map_some, List.set_cons_zero, List.set_cons_succ, decide_true, decide_false, ↓reduceIte, decide_eq_true_eq, Bool.not_eq_true', ↓p_0, ↓p_1, ↓p_2, ↓p_len, ↓p_eq, ↓p_ne, ↓p_ty, ↓p_items, ↓e_rv, ↓rv_2, mulOk_sm, eP, eQ, hn, g1, g2, g3, g4, ↓w_of _ _ (hm _ _ _)]
              exact hQ
            · rw [if_neg (fun z => g4 z.2.2)] at hQ
              simp (decide := true) only [↓ss_cons, ↓ss_nil, ↓s_set, ↓s_ret, ↓s_retN, ↓s_expr, ↓s_ife, ↓s_raise, ↓s_cnt, ↓s_brk, ↓s_pass, ↓s_setX, ↓s_for, ↓s_foS, ↓e_k, ↓e_tup, ↓e_lst, ↓e_call, ↓e_blt, ↓e_cmp, ↓e_bin, ↓e_neg, ↓e_and, ↓e_or, ↓e_not, ↓e_ite, ↓e_chain, ↓e_ix, ↓e_isi, ↓e_meth, ↓e_sl, ↓e_lam, ↓e_lc, ↓es_cons, ↓es_nil, ↓o_no, ↓b_add, ↓b_sub, ↓b_subB, ↓b_addB, ↓b_mul, ↓b_div, ↓b_mod, ↓b_pow, ↓b_addT, ↓b_mulT, ↓c_lt, ↓c_le, ↓c_gt, ↓c_ge, ↓c_isB, ↓c_isNotB, ↓c_isN, ↓c_isNotN, ↓t_abs, ↓t_int, ↓t_intB, ↓t_len, ↓t_min, ↓t_max, ↓t_tupT, ↓t_lstT, ↓i_v, ↓i_tup, ↓i_lst, ↓i_call, ↓i_ix, ↓i_sl, ↓lc_nil, ↓lc_cons, ↓w_lcB, ↓fo_nil, ↓fo_cons, ↓ts_nil, ↓ts_cons, ↓t_all, ↓t_any, ↓t_tup, ↓wI_int, ↓wR_ok, ↓v_0, ↓v_1, ↓v_2, ↓v_3, ↓v_4, ↓v_5, ↓v_6, ↓v_7, ↓v_8, ↓v_9, ↓v_10, ↓v_11, ↓v_12, ↓v_13, ↓v_14, ↓v_15, ↓v_16, ↓v_17, ↓v_18, ↓v_19, ↓v_20, ↓v_21, ↓v_22, ↓v_23, ↓v_24, ↓v_25, ↓v_26, ↓v_27, ↓v_28, ↓v_29, ↓v_30, ↓v_31, ↓as_0, ↓as_1, ↓as_2, ↓as_3, ↓as_4, ↓as_5, ↓as_6, ↓as_7, ↓as_8, ↓as_9, ↓as_10, ↓as_11, ↓as_12, ↓as_13, ↓as_14, ↓as_15, ↓as_16, ↓as_17, ↓as_18, ↓as_19, ↓as_20, ↓as_21, ↓as_22, ↓as_23, ↓as_24, ↓as_25, ↓as_26, ↓as_27, ↓as_28, ↓as_29, ↓as_30, ↓as_31, ↓as_t, ↓as_n, ↓as_c, ↓x1_0, ↓x2_0, ↓x2_1, ↓x3_0, ↓x3_1, ↓x3_2, ↓x4_0, ↓x4_1, ↓x4_2, ↓x4_3, ↓x5_0, ↓x5_1, ↓x5_2, ↓x5_3, ↓x5_4, ↓gc_id, ↓gc_bl, ↓gc_bl2, ↓gc_bl3, ↓gc_i, ↓gc_i2, ↓gc_n, ↓gc_n2, ↓gc_ex, ↓gc_ex0, ↓gc_ex2, ↓ce_ii, ↓ce_bb, ↓ce_2, ↓ce_3, ↓cn_ii, ↓cn_bb, ↓cn_2, ↓cn_3, ↓pk_bl, ↓pk_int, ↓pk_tn, ↓pk_tc, ↓pk_non, ↓nb_bl, ↓nb_int, ↓yt_non, ↓yt_bl, ↓yt_int, ↓yt_str, ↓yt_tup, ↓wp_tup, List.length_cons, List.length_nil, lim, Nat.reduceAdd, Nat.reduceLeDiff, true_and, and_true, is_ii, is_ib, is_bi, is_bb, is_tt, is_lt, is_it, is_nt, is_st, is_ni, is_si, is_ti, is_li, Bool.not_true, Bool.not_false, Bool.false_eq_true, if_true, if_false, abs_eq, Int.cast_ofNat_Int, BEq.rfl, beq_iff_eq, Int.reduceBEq, Int.reduceLT, Int.reduceLE, Int.reduceNeg, Int.reduceEq, List.all_cons, List.all_nil, id, Bool.and_true, Bool.true_and, Bool.and_self, same_nil', oc_some, oc_none, bls, wBs_some, wipe, Option.map_some, List.set_cons_zero, List.set_cons_succ, decide_true, decide_false, ↓reduceIte, decide_eq_true_eq, Bool.not_eq_true', ↓p_0, ↓p_1, ↓p_2, ↓p_len, ↓p_eq, ↓p_ne, ↓p_ty, ↓p_items, ↓e_rv, ↓rv_2, mulOk_sm, eP, eQ, hn, g1, g2, g3, g4]
              exact hQ
          · rw [if_neg (fun z => g3 z.2.1)] at hQ
            simp (decide := true) only [↓ss_cons, ↓ss_nil, ↓s_set, ↓s_ret, ↓s_retN, ↓s_expr, ↓s_ife, ↓s_raise, ↓s_cnt, ↓s_brk, ↓s_pass, ↓s_setX, ↓s_for, ↓s_foS, ↓e_k, ↓e_tup, ↓e_lst, ↓e_call, ↓e_blt, ↓e_cmp, ↓e_bin, ↓e_neg, ↓e_and, ↓e_or, ↓e_not, ↓e_ite, ↓e_chain, ↓e_ix, ↓e_isi, ↓e_meth, ↓e_sl, ↓e_lam, ↓e_lc, ↓es_cons, ↓es_nil, ↓o_no, ↓b_add, ↓b_sub, ↓b_subB, ↓b_addB, ↓b_mul, ↓b_div, ↓b_mod, ↓b_pow, ↓b_addT, ↓b_mulT, ↓c_lt, ↓c_le, ↓c_gt, ↓c_ge, ↓c_isB, ↓c_isNotB, ↓c_isN, ↓c_isNotN, ↓t_abs, ↓t_int, ↓t_intB, ↓t_len, ↓t_min, ↓t_max, ↓t_tupT, ↓t_lstT, ↓i_v, ↓i_tup, ↓i_lst, ↓i_call, ↓i_ix, ↓i_sl, ↓lc_nil, ↓lc_cons, ↓w_lcB, ↓fo_nil, ↓fo_cons, ↓ts_nil, ↓ts_cons, ↓t_all, ↓t_any, ↓t_tup, ↓wI_int, ↓wR_ok, ↓v_0, ↓v_1, ↓v_2, ↓v_3, ↓v_4, ↓v_5, ↓v_6, ↓v_7, ↓v_8, ↓v_9, ↓v_10, ↓v_11, ↓v_12, ↓v_13, ↓v_14, ↓v_15, ↓v_16, ↓v_17, ↓v_18, ↓v_19, ↓v_20, ↓v_21, ↓v_22, ↓v_23, ↓v_24, ↓v_25, ↓v_26, ↓v_27, ↓v_28, ↓v_29, ↓v_30, ↓v_31, ↓as_0, ↓as_1, ↓as_2, ↓as_3, ↓as_4, ↓as_5, ↓as_6, ↓as_7, ↓as_8, ↓as_9, ↓as_10, ↓as_11, ↓as_12, ↓as_13, ↓as_14, ↓as_15, ↓as_16, ↓as_17, ↓as_18, ↓as_19, ↓as_20, ↓as_21, ↓as_22, ↓as_23, ↓as_24, ↓as_25, ↓as_26, ↓as_27, ↓as_28, ↓as_29, ↓as_30, ↓as_31, ↓as_t, ↓as_n, ↓as_c, ↓x1_0, ↓x2_0, ↓x2_1, ↓x3_0, ↓x3_1, ↓x3_2, ↓x4_0, ↓x4_1, ↓x4_2, ↓x4_3, ↓x5_0, ↓x5_1, ↓x5_2, ↓x5_3, ↓x5_4, ↓gc_id, ↓gc_bl, ↓gc_bl2, ↓gc_bl3, ↓gc_i, ↓gc_i2, ↓gc_n, ↓gc_n2, ↓gc_ex, ↓gc_ex0, ↓gc_ex2, ↓ce_ii, ↓ce_bb, ↓ce_2, ↓ce_3, ↓cn_ii, ↓cn_bb, ↓cn_2, ↓cn_3, ↓pk_bl, ↓pk_int, ↓pk_tn, ↓pk_tc, ↓pk_non, ↓nb_bl, ↓nb_int, ↓yt_non, ↓yt_bl, ↓yt_int, ↓yt_str, ↓yt_tup, ↓wp_tup, List.length_cons, List.length_nil, lim, Nat.reduceAdd, Nat.reduceLeDiff, true_and, and_true, is_ii, is_ib, is_bi, is_bb, is_tt, is_lt, is_it, is_nt, is_st, is_ni, is_si, is_ti, is_li, Bool.not_true, Bool.not_false, Bool.false_eq_true, if_true, if_false, abs_eq, Int.cast_ofNat_Int, BEq.rfl, beq_iff_eq, Int.reduceBEq, Int.reduceLT, Int.reduceLE, Int.reduceNeg, Int.reduceEq, List.all_cons, List.all_nil, id, Bool.and_true, Bool.true_and, Bool.and_self, same_nil', oc_some, oc_none, bls, wBs_some, wipe, Option.map_some, List.set_cons_zero, List.set_cons_succ, decide_true, decide_false, ↓reduceIte, decide_eq_true_eq, Bool.not_eq_true', ↓p_0, ↓p_1, ↓p_2, ↓p_len, ↓p_eq, ↓p_ne, ↓p_ty, ↓p_items, ↓e_rv, ↓rv_2, mulOk_sm, eP, eQ, hn, g1, g2, g3]
            exact hQ
        · rw [if_neg (fun z => g2 z.1.2)] at hQ
          simp (decide := true) only [↓ss_cons, ↓ss_nil, ↓s_set, ↓s_ret, ↓s_retN, ↓s_expr, ↓s_ife, ↓s_raise, ↓s_cnt, ↓s_brk, ↓s_pass, ↓s_setX, ↓s_for, ↓s_foS, ↓e_k, ↓e_tup, ↓e_lst, ↓e_call, ↓e_blt, ↓e_cmp, ↓e_bin, ↓e_neg, ↓e_and, ↓e_or, ↓e_not, ↓e_ite, ↓e_chain, ↓e_ix, ↓e_isi, ↓e_meth, ↓e_sl, ↓e_lam, ↓e_lc, ↓es_cons, ↓es_nil, ↓o_no, ↓b_add, ↓b_sub, ↓b_subB, ↓b_addB, ↓b_mul, ↓b_div, ↓b_mod, ↓b_pow, ↓b_addT, ↓b_mulT, ↓c_lt, ↓c_le, ↓c_gt, ↓c_ge, ↓c_isB, ↓c_isNotB, ↓c_isN, ↓c_isNotN, ↓t_abs, ↓t_int, ↓t_intB, ↓t_len, ↓t_min, ↓t_max, ↓t_tupT, ↓t_lstT, ↓i_v, ↓i_tup, ↓i_lst, ↓i_call, ↓i_ix, ↓i_sl, ↓lc_nil, ↓lc_cons, ↓w_lcB, ↓fo_nil, ↓fo_cons, ↓ts_nil, ↓ts_cons, ↓t_all, ↓t_any, ↓t_tup, ↓wI_int, ↓wR_ok, ↓v_0, ↓v_1, ↓v_2, ↓v_3, ↓v_4, ↓v_5, ↓v_6, ↓v_7, ↓v_8, ↓v_9, ↓v_10, ↓v_11, ↓v_12, ↓v_13, ↓v_14, ↓v_15, ↓v_16, ↓v_17, ↓v_18, ↓v_19, ↓v_20, ↓v_21, ↓v_22, ↓v_23, ↓v_24, ↓v_25, ↓v_26, ↓v_27, ↓v_28, ↓v_29, ↓v_30, ↓v_31, ↓as_0, ↓as_1, ↓as_2, ↓as_3, ↓as_4, ↓as_5, ↓as_6, ↓as_7, ↓as_8, ↓as_9, ↓as_10, ↓as_11, ↓as_12, ↓as_13, ↓as_14, ↓as_15, ↓as_16, ↓as_17, ↓as_18, ↓as_19, ↓as_20, ↓as_21, ↓as_22, ↓as_23, ↓as_24, ↓as_25, ↓as_26, ↓as_27, ↓as_28, ↓as_29, ↓as_30, ↓as_31, ↓as_t, ↓as_n, ↓as_c, ↓x1_0, ↓x2_0, ↓x2_1, ↓x3_0, ↓x3_1, ↓x3_2, ↓x4_0, ↓x4_1, ↓x4_2, ↓x4_3, ↓x5_0, ↓x5_1, ↓x5_2, ↓x5_3, ↓x5_4, ↓gc_id, ↓gc_bl, ↓gc_bl2, ↓gc_bl3, ↓gc_i, ↓gc_i2, ↓gc_n, ↓gc_n2, ↓gc_ex, ↓gc_ex0, ↓gc_ex2, ↓ce_ii, ↓ce_bb, ↓ce_2, ↓ce_3, ↓cn_ii, ↓cn_bb, ↓cn_2, ↓cn_3, ↓pk_bl, ↓pk_int, ↓pk_tn, ↓pk_tc, ↓pk_non, ↓nb_bl, ↓nb_int, ↓yt_non, ↓yt_bl, ↓yt_int, ↓yt_str, ↓yt_tup, ↓wp_tup, List.length_cons, List.length_nil, lim, Nat.reduceAdd, Nat.reduceLeDiff, true_and, and_true, is_ii, is_ib, is_bi, is_bb, is_tt, is_lt, is_it, is_nt, is_st, is_ni, is_si, is_ti, is_li, Bool.not_true, Bool.not_false, Bool.false_eq_true, if_true, if_false, abs_eq, Int.cast_ofNat_Int, BEq.rfl, beq_iff_eq, Int.reduceBEq, Int.reduceLT, Int.reduceLE, Int.reduceNeg, Int.reduceEq, List.all_cons, List.all_nil, id, Bool.and_true, Bool.true_and, Bool.and_self, same_nil', oc_some, oc_none, bls, wBs_some, wipe, Option.map_some, List.set_cons_zero, List.set_cons_succ, decide_true, decide_false, ↓reduceIte, decide_eq_true_eq, Bool.not_eq_true', ↓p_0, ↓p_1, ↓p_2, ↓p_len, ↓p_eq, ↓p_ne, ↓p_ty, ↓p_items, ↓e_rv, ↓rv_2, mulOk_sm, eP, eQ, hn, g1, g2]
          exact hQ
      · rw [if_neg (fun z => g1 z.1.1)] at hQ
        simp (decide := true) only [↓ss_cons, ↓ss_nil, ↓s_set, ↓s_ret, ↓s_retN, ↓s_expr, ↓s_ife, ↓s_raise, ↓s_cnt, ↓s_brk, ↓s_pass, ↓s_setX, ↓s_for, ↓s_foS, ↓e_k, ↓e_tup, ↓e_lst, ↓e_call, ↓e_blt, ↓e_cmp, ↓e_bin, ↓e_neg, ↓e_and, ↓e_or, ↓e_not, ↓e_ite, ↓e_chain, ↓e_ix, ↓e_isi, ↓e_meth, ↓e_sl, ↓e_lam, ↓e_lc, ↓es_cons, ↓es_nil, ↓o_no, ↓b_add, ↓b_sub, ↓b_subB, ↓b_addB, ↓b_mul, ↓b_div, ↓b_mod, ↓b_pow, ↓b_addT, ↓b_mulT, ↓c_lt, ↓c_le, ↓c_gt, ↓c_ge, ↓c_isB, ↓c_isNotB, ↓c_isN, ↓c_isNotN, ↓t_abs, ↓t_int, ↓t_intB, ↓t_len, ↓t_min, ↓t_max, ↓t_tupT, ↓t_lstT, ↓i_v, ↓i_tup, ↓i_lst, ↓i_call, ↓i_ix, ↓i_sl, ↓lc_nil, ↓lc_cons, ↓w_lcB, ↓fo_nil, ↓fo_cons, ↓ts_nil, ↓ts_cons, ↓t_all, ↓t_any, ↓t_tup, ↓wI_int, ↓wR_ok, ↓v_0, ↓v_1, ↓v_2, ↓v_3, ↓v_4, ↓v_5, ↓v_6, ↓v_7, ↓v_8, ↓v_9, ↓v_10, ↓v_11, ↓v_12, ↓v_13, ↓v_14, ↓v_15, ↓v_16, ↓v_17, ↓v_18, ↓v_19, ↓v_20, ↓v_21, ↓v_22, ↓v_23, ↓v_24, ↓v_25, ↓v_26, ↓v_27, ↓v_28, ↓v_29, ↓v_30, ↓v_31, ↓as_0, ↓as_1, ↓as_2, ↓as_3, ↓as_4, ↓as_5, ↓as_6, ↓as_7, ↓as_8, ↓as_9, ↓as_10, ↓as_11, ↓as_12, ↓as_13, ↓as_14, ↓as_15, ↓as_16, ↓as_17, ↓as_18, ↓as_19, ↓as_20, ↓as_21, ↓as_22, ↓as_23, ↓as_24, ↓as_25, ↓as_26, ↓as_27, ↓as_28, ↓as_29, ↓as_30, ↓as_31, ↓as_t, ↓as_n, ↓as_c, ↓x1_0, ↓x2_0, ↓x2_1, ↓x3_0, ↓x3_1, ↓x3_2, ↓x4_0, ↓x4_1, ↓x4_2, ↓x4_3, ↓x5_0, ↓x5_1, ↓x5_2, ↓x5_3, ↓x5_4, ↓gc_id, ↓gc_bl, ↓gc_bl2, ↓gc_bl3, ↓gc_i, ↓gc_i2, ↓gc_n, ↓gc_n2, ↓gc_ex, ↓gc_ex0, ↓gc_ex2, ↓ce_ii, ↓ce_bb, ↓ce_2, ↓ce_3, ↓cn_ii, ↓cn_bb, ↓cn_2, ↓cn_3, ↓pk_bl, ↓pk_int, ↓pk_tn, ↓pk_tc, ↓pk_non, ↓nb_bl, ↓nb_int, ↓yt_non, ↓yt_bl, ↓yt_int, ↓yt_str, ↓yt_tup, ↓wp_tup, List.length_cons, List.length_nil, lim, Nat.reduceAdd, Nat.reduceLeDiff, true_and, and_true, is_ii, is_ib, is_bi, is_bb, is_tt, is_lt, is_it, is_nt, is_st, is_ni, is_si, is_ti, is_li, Bool.not_true, Bool.not_false, Bool.false_eq_true, if_true, if_false, abs_eq, Int.cast_ofNat_Int, BEq.rfl, beq_iff_eq, Int.reduceBEq, Int.reduceLT, Int.reduceLE, Int.reduceNeg, Int.reduceEq, List.all_cons, List.all_nil, id, Bool.and_true, Bool.true_and, Bool.and_self, same_nil', oc_some, oc_none, bls, wBs_some, wipe, Option.map_some, List.set_cons_zero, List.set_cons_succ, decide_true, decide_false, ↓reduceIte, decide_eq_true_eq, Bool.not_eq_true', ↓p_0, ↓p_1, ↓p_2, ↓p_len, ↓p_eq, ↓p_ne, ↓p_ty, ↓p_items, ↓e_rv, ↓rv_2, mulOk_sm, eP, eQ, hn, g1]
        exact hQ
end K03
end

section
set_option linter.all false
set_option autoImplicit false
set_option maxRecDepth 20000
namespace G
/-- on the line of two points -/
def farP (a b : Pn) (k : Int) : Pn := mkP (a.x * b.w * (4 - k) + b.x * a.w * k) (a.y * b.w * (4 - k) + b.y * a.w * k) (4 * a.w * b.w)
theorem mkP_same {x y w x' y' : Int} (h : w ≠ 0) (e : mkP x y w = mkP x' y' w) : x = x' ∧ y = y' := by
  have a := m_ok x y h
  have b := m_ok x' y' h
  unfold mkP at e
  injection e with e1 e2 e3
  have hr : m3 x' y' w ≠ 0 := by have := b.pt.pos; omega
  have h1 := a.ex
  have h2 := b.ex
  have h3 := a.ey
  have h4 := b.ey
  rw [e1, e3] at h1
  rw [e2, e3] at h3
  exact ⟨Int.eq_of_mul_eq_mul_right hr (by omega), Int.eq_of_mul_eq_mul_right hr (by omega)⟩
theorem farP_inj {a b : Pn} (ha : a.V) (hb : b.V) (hab : a ≠ b) {k l : Int} (hkl : k ≠ l) : farP a b k ≠ farP a b l := by
  intro e
  have pa := ha.pos
  have pb := hb.pos
  have hw : 4 * a.w * b.w ≠ 0 := by have := Int.mul_pos (Int.mul_pos (by decide : (0 : Int) < 4) pa) pb; omega
  obtain ⟨e1, e2⟩ := mkP_same hw e
  have g1 : (k - l) * (b.x * a.w - a.x * b.w) = 0 := by grind
  have g2 : (k - l) * (b.y * a.w - a.y * b.w) = 0 := by grind
  have z1 : b.x * a.w - a.x * b.w = 0 := (Int.mul_eq_zero.mp g1).resolve_left (by omega)
  have z2 : b.y * a.w - a.y * b.w = 0 := (Int.mul_eq_zero.mp g2).resolve_left (by omega)
  apply hab
  rw [← mkP_self ha, ← mkP_self hb]
  exact mkP_eq (by omega) (by omega) (by omega) (by omega)
theorem farP_in {a b : Pn} (ha : a.In 12) (hb : b.In 12) {k : Int} (h1 : -4 ≤ k) (h2 : k ≤ 8) : (farP a b k).In 40 := by
  have pa := ha.pt.pos
  have pb := hb.pt.pos
  obtain ⟨_, _, _, _⟩ := ha
  obtain ⟨_, _, _, _⟩ := hb
  haveI : Sm 4 k := ⟨by omega⟩
  haveI : Sm 4 (4 - k) := ⟨by omega⟩
  have hw : 4 * a.w * b.w ≠ 0 := by have := Int.mul_pos (Int.mul_pos (by decide : (0 : Int) < 4) pa) pb; omega
  exact mkP_in hw (by decide) (by decide) (by decide)
theorem right_ne {a : Pn} (ha : a.V) : a ≠ mkP (a.x + a.w) a.y a.w := by
  intro e
  have pa := ha.pos
  have := (mkP_iff (by omega) ha).mp e.symm
  have h : a.w * a.w = 0 := by have := this.1; grind
  rcases Int.mul_eq_zero.mp h with h | h <;> omega
theorem ix_at {c : Cells} {n : Nat} {xs : List D} (h : c[n]? = some (.lst xs)) (i : Nat) (hi : i < xs.length) (Q : QD) (E : QX) : wR (opIx (.ref n) (.int i) c) Q E = Q xs[i] c := by
  rw [x_ref]
  unfold getL
  rw [h]
  have : atI xs (i : Int) = some xs[i] := by unfold atI ixN; simp [hi]
  dsimp only [Option.bind]
  rw [this]
  rfl
/-- what a segment wants for its parts to be looked at -/
theorem vals_pts {c : Cells} {xs : List D} (h : ∀ x ∈ xs, (∃ p : Pn, x = p.d) ∨ x = .non) : ∀ x ∈ xs, x.vals c := by
  intro x hx
  rcases h x hx with ⟨p, rfl⟩ | rfl
  · exact Pn.vals c p
  · trivial
theorem shown_pn (p : Pn) [h : Pn.Ok p] : p.d.sh = true ∧ p.d.wt ≤ 6000 := by
  have key : ∀ i : Int, Sm 1000 i → i.natAbs.log2 < 1920 := fun i hi => by
    have := log2_sm (n := 1000) (x := i) (by decide)
    by_cases z : i.natAbs = 0
    · rw [z]; decide
    · have := (Nat.log2_lt z).mpr (Nat.lt_of_lt_of_le hi.lt (Nat.pow_le_pow_right (by decide) (by decide : 1000 ≤ 1920)))
      exact this
  have h1 := key _ h.sx
  have h2 := key _ h.sy
  have h3 := key _ h.sw
  unfold Pn.d
  simp [D.sh, D.shs, D.wt, D.wts, h1, h2, h3]
end G
end

section
set_option linter.all false
set_option autoImplicit false
set_option maxRecDepth 20000
namespace K03
open G
open PySem (Str Operator CmpOp PyData)
theorem segment_e (k : Nat) {c : Cells} {n : Nat} (hb : Bx c n) : ∃ (a b : Pn) (l : List D), callD T (k + 4) "_law_segment" [.ref n] c = .ok (segD a b) (c.set n (.lst l)) ∧ a.In 12 ∧ b.In 12 ∧ a ≠ b ∧ Bx (c.set n (.lst l)) n := by
  obtain ⟨a, l1, e1, pa, a1, a2, a3, b1⟩ := lpoint_e (T := T) k (far := 5) hb (by decide) (by decide)
  obtain ⟨b, l2, e2, pb, b1', b2', b3', b2⟩ := lpoint_e (T := T) k (far := 5) b1 (by decide) (by decide)
  simp only [List.set_set] at e2 b2
  have ia : a.In 12 := ⟨pa, a1.mono (by decide), a2.mono (by decide), a3.mono (by decide)⟩
  have ib : b.In 12 := ⟨pb, b1'.mono (by decide), b2'.mono (by decide), b3'.mono (by decide)⟩
  have qa := pa.pos
  have key : callD T (k + 4) "_law_segment" [.ref n] c = .ok (segD a (if a = b then mkP (a.x + a.w) a.y a.w else b)) (c.set n (.lst l2)) := by
    refine eq_of fun Q E hQ => call_body (fn := fn__law_segment) rfl rfl ?_
    unfold fn__law_segment
    show wS (dSs _ _ [some (.ref n), none, none] c) _
    have hgc : ∀ d : D, d.nr = true → wR (gcR c (.ok d (c.set n (.lst l2)))) Q E = Q d (c.set n (.lst l2)) := fun d hd => gc_set0 _ _ _ _ _ _ b2.bel hd
    by_cases h : a = b
    · rw [if_pos h] at hQ
      subst h
      have e3 := fun c => made_e (T := T) (k + 1) c "_law_made" "_law_common" (a.x + a.w) a.y a.w (by decide) (by omega)
      simp (decide := true) only [↓ss_cons, ↓ss_nil, ↓s_set, ↓s_ret, ↓s_retN, ↓s_expr, ↓s_ife, ↓s_raise, ↓s_cnt, ↓s_brk, ↓s_pass, ↓s_setX, ↓s_for, ↓s_foS, ↓e_k, ↓e_tup, ↓e_lst, ↓e_call, ↓e_blt, ↓e_cmp, ↓e_bin, ↓e_neg, ↓e_and, ↓e_or, ↓e_not, ↓e_ite, ↓e_chain, ↓e_ix, ↓e_isi, ↓e_meth, ↓e_sl, ↓e_lam, ↓e_lc, ↓es_cons, ↓es_nil, ↓o_no, ↓b_add, ↓b_sub, ↓b_subB, ↓b_addB, ↓b_mul, ↓b_div, ↓b_mod, ↓b_pow, ↓b_addT, ↓b_mulT, ↓c_lt, ↓c_le, ↓c_gt, ↓c_ge, ↓c_isB, ↓c_isNotB, ↓c_isN, ↓c_isNotN, ↓t_abs, ↓t_int, ↓t_intB, ↓t_len, ↓t_min, ↓t_max, ↓t_tupT, ↓t_lstT, ↓i_v, ↓i_tup, ↓i_lst, ↓i_call, ↓i_ix, ↓i_sl, ↓lc_nil, ↓lc_cons, ↓w_lcB, ↓fo_nil, ↓fo_cons, ↓ts_nil, ↓ts_cons, ↓t_all, ↓t_any, ↓t_tup, ↓wI_int, ↓wR_ok, ↓v_0, ↓v_1, ↓v_2, ↓v_3, ↓v_4, ↓v_5, ↓v_6, ↓v_7, ↓v_8, ↓v_9, ↓v_10, ↓v_11, ↓v_12, ↓v_13, ↓v_14, ↓v_15, ↓v_16, ↓v_17, ↓v_18, ↓v_19, ↓v_20, ↓v_21, ↓v_22, ↓v_23, ↓v_24, ↓v_25, ↓v_26, ↓v_27, ↓v_28, ↓v_29, ↓v_30, ↓v_31, ↓as_0, ↓as_1, ↓as_2, ↓as_3, ↓as_4, ↓as_5, ↓as_6, ↓as_7, ↓as_8, ↓as_9, ↓as_10, ↓as_11, ↓as_12, ↓as_13, ↓as_14, ↓as_15, ↓as_16, ↓as_17, ↓as_18, ↓as_19, ↓as_20, ↓as_21, ↓as_22, ↓as_23, ↓as_24, ↓as_25, ↓as_26, ↓as_27, ↓as_28, ↓as_29, ↓as_30, ↓as_31, ↓as_t, ↓as_n, ↓as_c, ↓x1_0, ↓x2_0, ↓x2_1, ↓x3_0, ↓x3_1, ↓x3_2, ↓x4_0, ↓x4_1, ↓x4_2, ↓x4_3, ↓x5_0, ↓x5_1, ↓x5_2, ↓x5_3, ↓x5_4, ↓gc_id, ↓gc_bl, ↓gc_bl2, ↓gc_bl3, ↓gc_i, ↓gc_i2, ↓gc_n, ↓gc_n2, ↓gc_ex, ↓gc_ex0, ↓gc_ex2, ↓ce_ii, ↓ce_bb, ↓ce_2, ↓ce_3, ↓cn_ii, ↓cn_bb, ↓cn_2, ↓cn_3, ↓pk_bl, ↓pk_int, ↓pk_tn, ↓pk_tc, ↓pk_non, ↓nb_bl, ↓nb_int, ↓yt_non, ↓yt_bl, ↓yt_int, ↓yt_str, ↓yt_tup, ↓wp_tup, List.length_cons, List.length_nil, lim, Nat.reduceAdd, Nat.reduceLeDiff, true_and, and_true, is_ii, is_ib, is_bi, is_bb, is_tt, is_lt, is_it, is_nt, is_st, is_ni, is_si, is_ti, is_li, Bool.not_true, Bool.not_false, Bool.false_eq_true, if_true, if_false, abs_eq, Int.cast_ofNat_Int, BEq.rfl, beq_iff_eq, Int.reduceBEq, Int.reduceLT, Int.reduceLE, Int.reduceNeg, Int.reduceEq, List.all_cons, List.all_nil, id, Bool.and_true, Bool.true_and, Bool.and_self, same_nil', oc_some, oc_none, bls, wBs_some, wipe, Option.map_some, List.set_cons_zero, List.set_cons_succ, decide_true, decide_false, ↓reduceIte, decide_eq_true_eq, Bool.not_eq_true', ↓p_0, ↓p_1, ↓p_2, ↓p_len, ↓p_eq, ↓p_ne, ↓p_ty, ↓p_items, ↓e_rv, ↓rv_2, mulOk_sm, ↓w_of _ _ e1, ↓w_of _ _ e2, ↓w_of _ _ (e3 _)]
      exact (hgc _ (by simp [D.nr, D.nrs, Pn.nr])).mpr hQ
    · rw [if_neg h] at hQ
      simp (decide := true) only [↓ss_cons, ↓ss_nil, ↓s_set, ↓s_ret, ↓s_retN, ↓s_expr, ↓s_ife, ↓s_raise, ↓s_cnt, ↓s_brk, ↓s_pass, ↓s_setX, ↓s_for, ↓s_foS, ↓e_k, ↓e_tup, ↓e_lst, ↓e_call, ↓e_blt, ↓e_cmp, ↓e_bin, ↓e_neg, ↓e_and, ↓e_or, ↓e_not, ↓e_ite, ↓e_chain, ↓e_ix, ↓e_isi, ↓e_meth, ↓e_sl, ↓e_lam, ↓e_lc, ↓es_cons, ↓es_nil, ↓o_no, ↓b_add, ↓b_sub, ↓b_subB, ↓b_addB, ↓b_mul, ↓b_div, ↓b_mod, ↓b_pow, ↓b_addT, ↓b_mulT, ↓c_lt, ↓c_le, ↓c_gt, ↓c_ge, ↓c_isB, ↓c_isNotB, ↓c_isN, ↓c_isNotN, ↓t_abs, ↓t_int, ↓t_intB, ↓t_len, ↓t_min, ↓t_max, ↓t_tupT, ↓t_lstT, ↓i_v, ↓i_tup, ↓i_lst, ↓i_call, ↓i_ix, ↓i_sl, ↓lc_nil, ↓lc_cons, ↓w_lcB, ↓fo_nil, ↓fo_cons, ↓ts_nil, ↓ts_cons, ↓t_all, ↓t_any, ↓t_tup, ↓wI_int, ↓wR_ok, ↓v_0, ↓v_1, ↓v_2, ↓v_3, ↓v_4, ↓v_5, ↓v_6, ↓v_7, ↓v_8, ↓v_9, ↓v_10, ↓v_11, ↓v_12, ↓v_13, ↓v_14, ↓v_15, ↓v_16, ↓v_17, ↓v_18, ↓v_19, ↓v_20, ↓v_21, ↓v_22, ↓v_23, ↓v_24, ↓v_25, ↓v_26, ↓v_27, ↓v_28, ↓v_29, ↓v_30, ↓v_31, ↓as_0, ↓as_1, ↓as_2, ↓as_3, ↓as_4, ↓as_5, ↓as_6, ↓as_7, ↓as_8, ↓as_9, ↓as_10, ↓as_11, ↓as_12, ↓as_13, ↓as_14, ↓as_15, ↓as_16, ↓as_17, ↓as_18, ↓as_19, ↓as_20, ↓as_21, ↓as_22, ↓as_23, ↓as_24, ↓as_25, ↓as_26, ↓as_27, ↓as_28, ↓as_29, ↓as_30, ↓as_31, ↓as_t, ↓as_n, ↓as_c, ↓x1_0, ↓x2_0, ↓x2_1, ↓x3_0, ↓x3_1, ↓x3_2, ↓x4_0, ↓x4_1, ↓x4_2, ↓x4_3, ↓x5_0, ↓x5_1, ↓x5_2, ↓x5_3, ↓x5_4, ↓gc_id, ↓gc_bl, ↓gc_bl2, ↓gc_bl3, ↓gc_i, ↓gc_i2, ↓gc_n, ↓gc_n2, ↓gc_ex, ↓gc_ex0, ↓gc_ex2, ↓ce_ii, ↓ce_bb, ↓ce_2, ↓ce_3, ↓cn_ii, ↓cn_bb, ↓cn_2, ↓cn_3, ↓pk_bl, ↓pk_int, ↓pk_tn, ↓pk_tc, ↓pk_non, ↓nb_bl, ↓nb_int, ↓yt_non, ↓yt_bl, ↓yt_int, ↓yt_str, ↓yt_tup, ↓wp_tup, List.length_cons, List.length_nil, lim, Nat.reduceAdd, Nat.reduceLeDiff, true_and, and_true, is_ii, is_ib, is_bi, is_bb, is_tt, is_lt, is_it, is_nt, is_st, is_ni, is_si, is_ti, is_li, Bool.not_true, Bool.not_false, Bool.false_eq_true, if_true, if_false, abs_eq, Int.cast_ofNat_Int, BEq.rfl, beq_iff_eq, Int.reduceBEq, Int.reduceLT, Int.reduceLE, Int.reduceNeg, Int.reduceEq, List.all_cons, List.all_nil, id, Bool.and_true, Bool.true_and, Bool.and_self, same_nil', oc_some, oc_none, bls, wBs_some, wipe, Option.map_some, List.set_cons_zero, List.set_cons_succ, decide_true, decide_false, ↓reduceIte, decide_eq_true_eq, Bool.not_eq_true', ↓p_0, ↓p_1, ↓p_2, ↓p_len, ↓p_eq, ↓p_ne, ↓p_ty, ↓p_items, ↓e_rv, ↓rv_2, mulOk_sm, ↓w_of _ _ e1, ↓w_of _ _ e2, h]
      exact (hgc _ (by simp [D.nr, D.nrs, Pn.nr])).mpr hQ
  by_cases h : a = b
  · rw [if_pos h] at key
    refine ⟨_, _, _, key, ia, ?_, right_ne pa, b2⟩
    exact mkP_in (by omega) (by decide) (by decide) (by decide)
  · rw [if_neg h] at key
    exact ⟨_, _, _, key, ia, ib, h, b2⟩
theorem call_bad (k : Nat) (c : Cells) {a b : Pn} {d : D} (ha : a.In 40) (hb : b.In 40) (hab : a ≠ b) (hd : match d with | .tup xs => ∀ x ∈ xs, x.vals c | .ref n => (tyOf c (.ref n)).isSome = true | _ => True) (h : segB d = false) :
    callD T (k + 5) "crossing" [d, segD a b] c = .ex "BadShape" c ∧ callD T (k + 5) "crossing" [segD a b, d] c = .ex "BadShape" c := by
  haveI := ha.ok (by decide)
  haveI := hb.ok (by decide)
  have e := checksegment_x (T := T) k c d hd h
  constructor
  · refine ex_of fun Q E hQ => call_body (fn := F.crossing) rfl rfl ?_
    unfold F.crossing
    show wS (dSs _ _ [some d, some (segD a b)] c) _
    simp (decide := true) only [↓ss_cons, ↓ss_nil, ↓s_set, ↓s_ret, ↓s_retN, ↓s_expr, ↓s_ife, ↓s_raise, ↓s_cnt, ↓s_brk, ↓s_pass, ↓s_setX, ↓s_for, ↓s_foS, ↓e_k, ↓e_tup, ↓e_lst, ↓e_call, ↓e_blt, ↓e_cmp, ↓e_bin, ↓e_neg, ↓e_and, ↓e_or, ↓e_not, ↓e_ite, ↓e_chain, ↓e_ix, ↓e_isi, ↓e_meth, ↓e_sl, ↓e_lam, ↓e_lc, ↓es_cons, ↓es_nil, ↓o_no, ↓b_add, ↓b_sub, ↓b_subB, ↓b_addB, ↓b_mul, ↓b_div, ↓b_mod, ↓b_pow, ↓b_addT, ↓b_mulT, ↓c_lt, ↓c_le, ↓c_gt, ↓c_ge, ↓c_isB, ↓c_isNotB, ↓c_isN, ↓c_isNotN, ↓t_abs, ↓t_int, ↓t_intB, ↓t_len, ↓t_min, ↓t_max, ↓t_tupT, ↓t_lstT, ↓i_v, ↓i_tup, ↓i_lst, ↓i_call, ↓i_ix, ↓i_sl, ↓lc_nil, ↓lc_cons, ↓w_lcB, ↓fo_nil, ↓fo_cons, ↓ts_nil, ↓ts_cons, ↓t_all, ↓t_any, ↓t_tup, ↓wI_int, ↓wR_ok, ↓v_0, ↓v_1, ↓v_2, ↓v_3, ↓v_4, ↓v_5, ↓v_6, ↓v_7, ↓v_8, ↓v_9, ↓v_10, ↓v_11, ↓v_12, ↓v_13, ↓v_14, ↓v_15, ↓v_16, ↓v_17, ↓v_18, ↓v_19, ↓v_20, ↓v_21, ↓v_22, ↓v_23, ↓v_24, ↓v_25, ↓v_26, ↓v_27, ↓v_28, ↓v_29, ↓v_30, ↓v_31, ↓as_0, ↓as_1, ↓as_2, ↓as_3, ↓as_4, ↓as_5, ↓as_6, ↓as_7, ↓as_8, ↓as_9, ↓as_10, ↓as_11, ↓as_12, ↓as_13, ↓as_14, ↓as_15, ↓as_16, ↓as_17, ↓as_18, ↓as_19, ↓as_20, ↓as_21, ↓as_22, ↓as_23, ↓as_24, ↓as_25, ↓as_26, ↓as_27, ↓as_28, ↓as_29, ↓as_30, ↓as_31, ↓as_t, ↓as_n, ↓as_c, ↓x1_0, ↓x2_0, ↓x2_1, ↓x3_0, ↓x3_1, ↓x3_2, ↓x4_0, ↓x4_1, ↓x4_2, ↓x4_3, ↓x5_0, ↓x5_1, ↓x5_2, ↓x5_3, ↓x5_4, ↓gc_id, ↓gc_bl, ↓gc_bl2, ↓gc_bl3, ↓gc_i, ↓gc_i2, ↓gc_n, ↓gc_n2, ↓gc_ex, ↓gc_ex0, ↓gc_ex2, ↓ce_ii, ↓ce_bb, ↓ce_2, ↓ce_3, ↓cn_ii, ↓cn_bb, ↓cn_2, ↓cn_3, ↓pk_bl, ↓pk_int, ↓pk_tn, ↓pk_tc, ↓pk_non, ↓nb_bl, ↓nb_int, ↓yt_non, ↓yt_bl, ↓yt_int, ↓yt_str, ↓yt_tup, ↓wp_tup, List.length_cons, List.length_nil, lim, Nat.reduceAdd, Nat.reduceLeDiff, true_and, and_true, is_ii, is_ib, is_bi, is_bb, is_tt, is_lt, is_it, is_nt, is_st, is_ni, is_si, is_ti, is_li, Bool.not_true, Bool.not_false, Bool.false_eq_true, if_true, if_false, abs_eq, Int.cast_ofNat_Int, BEq.rfl, beq_iff_eq, Int.reduceBEq, Int.reduceLT, Int.reduceLE, Int.reduceNeg, Int.reduceEq, List.all_cons, List.all_nil, id, Bool.and_true, Bool.true_and, Bool.and_self, same_nil', oc_some, oc_none, bls, wBs_some, wipe, Option.map_some, List.set_cons_zero, List.set_cons_succ, decide_true, decide_false, ↓reduceIte, decide_eq_true_eq, Bool.not_eq_true', ↓p_0, ↓p_1, ↓p_2, ↓p_len, ↓p_eq, ↓p_ne, ↓p_ty, ↓p_items, ↓e_rv, ↓rv_2, mulOk_sm, ↓w_ex _ _ e]
    exact hQ
  · refine ex_of fun Q E hQ => call_body (fn := F.crossing) rfl rfl ?_
    unfold F.crossing
    show wS (dSs _ _ [some (segD a b), some d] c) _
    simp (decide := true) only [↓ss_cons, ↓ss_nil, ↓s_set, ↓s_ret, ↓s_retN, ↓s_expr, ↓s_ife, ↓s_raise, ↓s_cnt, ↓s_brk, ↓s_pass, ↓s_setX, ↓s_for, ↓s_foS, ↓e_k, ↓e_tup, ↓e_lst, ↓e_call, ↓e_blt, ↓e_cmp, ↓e_bin, ↓e_neg, ↓e_and, ↓e_or, ↓e_not, ↓e_ite, ↓e_chain, ↓e_ix, ↓e_isi, ↓e_meth, ↓e_sl, ↓e_lam, ↓e_lc, ↓es_cons, ↓es_nil, ↓o_no, ↓b_add, ↓b_sub, ↓b_subB, ↓b_addB, ↓b_mul, ↓b_div, ↓b_mod, ↓b_pow, ↓b_addT, ↓b_mulT, ↓c_lt, ↓c_le, ↓c_gt, ↓c_ge, ↓c_isB, ↓c_isNotB, ↓c_isN, ↓c_isNotN, ↓t_abs, ↓t_int, ↓t_intB, ↓t_len, ↓t_min, ↓t_max, ↓t_tupT, ↓t_lstT, ↓i_v, ↓i_tup, ↓i_lst, ↓i_call, ↓i_ix, ↓i_sl, ↓lc_nil, ↓lc_cons, ↓w_lcB, ↓fo_nil, ↓fo_cons, ↓ts_nil, ↓ts_cons, ↓t_all, ↓t_any, ↓t_tup, ↓wI_int, ↓wR_ok, ↓v_0, ↓v_1, ↓v_2, ↓v_3, ↓v_4, ↓v_5, ↓v_6, ↓v_7, ↓v_8, ↓v_9, ↓v_10, ↓v_11, ↓v_12, ↓v_13, ↓v_14, ↓v_15, ↓v_16, ↓v_17, ↓v_18, ↓v_19, ↓v_20, ↓v_21, ↓v_22, ↓v_23, ↓v_24, ↓v_25, ↓v_26, ↓v_27, ↓v_28, ↓v_29, ↓v_30, ↓v_31, ↓as_0, ↓as_1, ↓as_2, ↓as_3, ↓as_4, ↓as_5, ↓as_6, ↓as_7, ↓as_8, ↓as_9, ↓as_10, ↓as_11, ↓as_12, ↓as_13, ↓as_14, ↓as_15, ↓as_16, ↓as_17, ↓as_18, ↓as_19, ↓as_20, ↓as_21, ↓as_22, ↓as_23, ↓as_24, ↓as_25, ↓as_26, ↓as_27, ↓as_28, ↓as_29, ↓as_30, ↓as_31, ↓as_t, ↓as_n, ↓as_c, ↓x1_0, ↓x2_0, ↓x2_1, ↓x3_0, ↓x3_1, ↓x3_2, ↓x4_0, ↓x4_1, ↓x4_2, ↓x4_3, ↓x5_0, ↓x5_1, ↓x5_2, ↓x5_3, ↓x5_4, ↓gc_id, ↓gc_bl, ↓gc_bl2, ↓gc_bl3, ↓gc_i, ↓gc_i2, ↓gc_n, ↓gc_n2, ↓gc_ex, ↓gc_ex0, ↓gc_ex2, ↓ce_ii, ↓ce_bb, ↓ce_2, ↓ce_3, ↓cn_ii, ↓cn_bb, ↓cn_2, ↓cn_3, ↓pk_bl, ↓pk_int, ↓pk_tn, ↓pk_tc, ↓pk_non, ↓nb_bl, ↓nb_int, ↓yt_non, ↓yt_bl, ↓yt_int, ↓yt_str, ↓yt_tup, ↓wp_tup, List.length_cons, List.length_nil, lim, Nat.reduceAdd, Nat.reduceLeDiff, true_and, and_true, is_ii, is_ib, is_bi, is_bb, is_tt, is_lt, is_it, is_nt, is_st, is_ni, is_si, is_ti, is_li, Bool.not_true, Bool.not_false, Bool.false_eq_true, if_true, if_false, abs_eq, Int.cast_ofNat_Int, BEq.rfl, beq_iff_eq, Int.reduceBEq, Int.reduceLT, Int.reduceLE, Int.reduceNeg, Int.reduceEq, List.all_cons, List.all_nil, id, Bool.and_true, Bool.true_and, Bool.and_self, same_nil', oc_some, oc_none, bls, wBs_some, wipe, Option.map_some, List.set_cons_zero, List.set_cons_succ, decide_true, decide_false, ↓reduceIte, decide_eq_true_eq, Bool.not_eq_true', ↓p_0, ↓p_1, ↓p_2, ↓p_len, ↓p_eq, ↓p_ne, ↓p_ty, ↓p_items, ↓e_rv, ↓rv_2, mulOk_sm, ↓w_of _ _ (checksegment_p _ _ a b hab), ↓w_ex _ _ e]
    exact hQ
def ResOk : Res → Prop
  | .no => True
  | .pt p => Pn.Ok p
  | .part p q => Pn.Ok p ∧ Pn.Ok q
theorem bothR_ok {a b x y : Pn} (ha : a.In 40) (hb : b.In 40) (hx : x.In 40) (hy : y.In 40) : ResOk (bothR a b x y) := by
  haveI := ha.ok (by decide)
  haveI := hb.ok (by decide)
  haveI := hx.ok (by decide)
  haveI := hy.ok (by decide)
  unfold bothR
  by_cases h1 : sideP a b x = 0 ∧ sideP a b y = 0
  · rw [if_pos h1]
    unfold lineR
    split
    · trivial
    · split
      · exact (inferInstance : Pn.Ok (maxP (loP a b) (loP x y)))
      · exact ⟨(inferInstance : Pn.Ok (maxP (loP a b) (loP x y))), (inferInstance : Pn.Ok (minP (hiP a b) (hiP x y)))⟩
  · rw [if_neg h1]
    split
    · trivial
    · rename_i h2
      have hw := crossW_ne ha.pt hb.pt hx.pt hy.pt h1 (fun z => h2 (.inl z))
      obtain ⟨_, _, _, _⟩ := ha
      obtain ⟨_, _, _, _⟩ := hb
      obtain ⟨_, _, _, _⟩ := hx
      obtain ⟨_, _, _, _⟩ := hy
      unfold crossW at hw
      exact (mkP_in (n := 1000) hw (by decide) (by decide) (by decide)).ok (by decide)
theorem res_ok {r : Res} (h : ResOk r) : r.D.ok = true ∧ r.D.sh = true ∧ r.D.wt ≤ 16777216 := by
  have f1 : PyData.strOk (F.s "point") = true := strOk_of _
  have f2 : PyData.strOk (F.s "part") = true := strOk_of _
  have g1 : PyData.strOk (PySem.reprText (F.s "point")) = true := by decide +kernel
  have g2 : PyData.strOk (PySem.reprText (F.s "part")) = true := by decide +kernel
  have l1 : (PySem.reprText (F.s "point")).length = 7 := by decide +kernel
  have l2 : (PySem.reprText (F.s "part")).length = 6 := by decide +kernel
  cases r with
  | no => exact ⟨rfl, by simp [Res.D, D.sh], by simp [Res.D, D.wt]⟩
  | pt p =>
    obtain ⟨w1, w2⟩ := shown_pn p (h := h)
    refine ⟨?_, ?_, ?_⟩
    · unfold Res.D D.ok; simp [D.fl, D.fls, D.dep, D.deps, Pn.d, f1]
    · simp [Res.D, D.sh, D.shs, w1, g1]
    · simp only [Res.D, D.wt, D.wts, l1]; omega
  | part p q =>
    obtain ⟨w1, w2⟩ := shown_pn p (h := h.1)
    obtain ⟨w3, w4⟩ := shown_pn q (h := h.2)
    refine ⟨?_, ?_, ?_⟩
    · unfold Res.D D.ok; simp [D.fl, D.fls, D.dep, D.deps, Pn.d, f2]
    · simp [Res.D, D.sh, D.shs, w1, w3, g2]
    · simp only [Res.D, D.wt, D.wts, l2]; omega
/-- what no segment is -/
def badsP (a b : Pn) (r : Nat) : List D := [.tup [a.d, a.d], .tup [a.d], .ref r, .tup [a.d, b.d, a.d, b.d], .non, .tup [a.d, .non]]
theorem bad_seg {a b : Pn} {c : Cells} {r : Nat} {xs : List D} (hr : c[r]? = some (.lst xs)) (ha : a.V) : ∀ d ∈ badsP a b r, (match d with | .tup xs => ∀ x ∈ xs, x.vals c | .ref n => (tyOf c (.ref n)).isSome = true | _ => True) ∧ segB d = false := by
  intro d hd
  unfold badsP at hd
  simp only [List.mem_cons, List.not_mem_nil, or_false] at hd
  rcases hd with rfl | rfl | rfl | rfl | rfl | rfl
  · refine ⟨vals_pts fun x hx => ?_, ?_⟩
    · simp at hx; exact .inl ⟨a, hx⟩
    · show (isPt a.d && isPt a.d && !eqD a.d a.d) = false
      have e : eqD a.d a.d = true := by rw [eqD_it _ _ (Pn.it_d a) (Pn.it_d a)]
      rw [e]; simp
  · refine ⟨vals_pts fun x hx => ?_, rfl⟩
    simp at hx; exact .inl ⟨a, hx⟩
  · refine ⟨?_, rfl⟩
    show (tyOf c (.ref r)).isSome = true
    unfold tyOf
    dsimp only
    rw [hr]; rfl
  · refine ⟨vals_pts fun x hx => ?_, rfl⟩
    simp at hx
    rcases hx with rfl | rfl | rfl | rfl
    · exact .inl ⟨_, rfl⟩
    · exact .inl ⟨_, rfl⟩
    · exact .inl ⟨_, rfl⟩
    · exact .inl ⟨_, rfl⟩
  · exact ⟨trivial, rfl⟩
  · refine ⟨vals_pts fun x hx => ?_, ?_⟩
    · simp at hx
      rcases hx with rfl | rfl
      · exact .inl ⟨_, rfl⟩
      · exact .inr rfl
    · show (isPt a.d && isPt .non && !eqD a.d .non) = false
      simp [isPt]
abbrev KT : SK := ⟨fun _ c => wR (gcR [] (.ok .non c)) (fun d _ => d = .bl true) (fun _ _ => False), fun d _ => d = .bl true, fun _ _ => False, fun _ _ => False, fun _ _ => False⟩
/-- what the law's end asks -/
def KL (c0 : Cells) : SK := ⟨fun _ c' => wR (gcR c0 (.ok .non c')) (fun d _ => d = .bl true) (fun _ _ => False), fun d c' => wR (gcR c0 (.ok d c')) (fun d _ => d = .bl true) (fun _ _ => False), fun _ _ => False, fun _ _ => False, fun x c' => wR (gcR c0 (.ex x c')) (fun d _ => d = .bl true) (fun _ _ => False)⟩
theorem gc_true (c0 c' : Cells) : wR (gcR c0 (.ok (.bl true) c')) (fun d _ => d = .bl true) (fun _ _ => False) := by
  unfold gcR
  dsimp only
  split
  · split <;> rfl
  · rfl
/-- from the two segments on -/
theorem law3 {C c0 : Cells} {n : Nat} {a b x y : Pn} {s2 s3 s4 s5 s6 : Option D} (hC : Bx C n) (ha : a.In 40) (hb : b.In 40) (hx : x.In 40) (hy : y.In 40) (hab : a ≠ b) (hxy : x ≠ y) :
    wS (dSs ⟨callD T 59, T.thks, T.excs⟩ (fn_law.body.drop 5) [some (.ref 0), some (.ref n), s2, s3, s4, s5, s6, none, none, none, none, some (segD a b), some (segD x y), none, none] C) (KL c0) := by
  haveI oa := ha.ok (by decide)
  haveI ob := hb.ok (by decide)
  haveI ox := hx.ok (by decide)
  haveI oy := hy.ok (by decide)
  unfold fn_law
  dsimp only [List.drop]
  have hsh : ∃ r : Res, sharedR a b x y = r ∧ r.D.ok = true ∧ r.D.sh = true ∧ r.D.wt ≤ 16777216 ∧ bothR a b x y = r := by
    have e := shared_eq ha.pt hb.pt hx.pt hy.pt hab
    obtain ⟨z1, z2, z3⟩ := res_ok (bothR_ok ha hb hx hy)
    exact ⟨_, e, z1, z2, z3, rfl⟩
  obtain ⟨r, hr, r1, r2, r3, hr2⟩ := hsh
  refine seq (fun ρ' c' => ρ' = [some (.ref 0), some (.ref n), s2, s3, s4, s5, s6, some r.D, none, none, none, some (segD a b), some (segD x y), none, none] ∧ c' = C) (fun I hI => ?_) ?_
  · have e := shared_e 56 C ha hb hx hy hab
    rw [hr] at e
    simp (decide := true) only [↓ss_cons, ↓ss_nil, ↓s_set, ↓s_ret, ↓s_retN, ↓s_expr, ↓s_ife, ↓s_raise, ↓s_cnt, ↓s_brk, ↓s_pass, ↓s_setX, ↓s_for, ↓s_foS, ↓e_k, ↓e_tup, ↓e_lst, ↓e_call, ↓e_blt, ↓e_cmp, ↓e_bin, ↓e_neg, ↓e_and, ↓e_or, ↓e_not, ↓e_ite, ↓e_chain, ↓e_ix, ↓e_isi, ↓e_meth, ↓e_sl, ↓e_lam, ↓e_lc, ↓es_cons, ↓es_nil, ↓o_no, ↓b_add, ↓b_sub, ↓b_subB, ↓b_addB, ↓b_mul, ↓b_div, ↓b_mod, ↓b_pow, ↓b_addT, ↓b_mulT, ↓c_lt, ↓c_le, ↓c_gt, ↓c_ge, ↓c_isB, ↓c_isNotB, ↓c_isN, ↓c_isNotN, ↓t_abs, ↓t_int, ↓t_intB, ↓t_len, ↓t_min, ↓t_max, ↓t_tupT, ↓t_lstT, ↓i_v, ↓i_tup, ↓i_lst, ↓i_call, ↓i_ix, ↓i_sl, ↓w_lcB, ↓ts_nil, ↓ts_cons, ↓t_all, ↓t_any, ↓t_tup, ↓wI_int, ↓wR_ok, ↓v_0, ↓v_1, ↓v_2, ↓v_3, ↓v_4, ↓v_5, ↓v_6, ↓v_7, ↓v_8, ↓v_9, ↓v_10, ↓v_11, ↓v_12, ↓v_13, ↓v_14, ↓v_15, ↓v_16, ↓v_17, ↓v_18, ↓v_19, ↓v_20, ↓v_21, ↓v_22, ↓v_23, ↓v_24, ↓v_25, ↓v_26, ↓v_27, ↓v_28, ↓v_29, ↓v_30, ↓v_31, ↓as_0, ↓as_1, ↓as_2, ↓as_3, ↓as_4, ↓as_5, ↓as_6, ↓as_7, ↓as_8, ↓as_9, ↓as_10, ↓as_11, ↓as_12, ↓as_13, ↓as_14, ↓as_15, ↓as_16, ↓as_17, ↓as_18, ↓as_19, ↓as_20, ↓as_21, ↓as_22, ↓as_23, ↓as_24, ↓as_25, ↓as_26, ↓as_27, ↓as_28, ↓as_29, ↓as_30, ↓as_31, ↓as_t, ↓as_n, ↓as_c, ↓x1_0, ↓x2_0, ↓x2_1, ↓x3_0, ↓x3_1, ↓x3_2, ↓x4_0, ↓x4_1, ↓x4_2, ↓x4_3, ↓x5_0, ↓x5_1, ↓x5_2, ↓x5_3, ↓x5_4, ↓gc_id, ↓gc_bl, ↓gc_bl2, ↓gc_bl3, ↓gc_i, ↓gc_i2, ↓gc_n, ↓gc_n2, ↓gc_ex, ↓gc_ex0, ↓gc_ex2, ↓ce_ii, ↓ce_bb, ↓ce_2, ↓ce_3, ↓cn_ii, ↓cn_bb, ↓cn_2, ↓cn_3, ↓pk_bl, ↓pk_int, ↓pk_tn, ↓pk_tc, ↓pk_non, ↓nb_bl, ↓nb_int, ↓yt_non, ↓yt_bl, ↓yt_int, ↓yt_str, ↓yt_tup, ↓wp_tup, List.length_cons, List.length_nil, lim, Nat.reduceAdd, Nat.reduceLeDiff, true_and, and_true, is_ii, is_ib, is_bi, is_bb, is_tt, is_lt, is_it, is_nt, is_st, is_ni, is_si, is_ti, is_li, Bool.not_true, Bool.not_false, Bool.false_eq_true, if_true, if_false, abs_eq, Int.cast_ofNat_Int, BEq.rfl, beq_iff_eq, Int.reduceBEq, Int.reduceLT, Int.reduceLE, Int.reduceNeg, Int.reduceEq, List.all_cons, List.all_nil, id, Bool.and_true, Bool.true_and, Bool.and_self, same_nil', oc_some, oc_none, bls, wBs_some, wipe, Option.map_some, List.set_cons_zero, List.set_cons_succ, decide_true, decide_false, ↓reduceIte, decide_eq_true_eq, Bool.not_eq_true', ↓p_0, ↓p_1, ↓p_2, ↓p_len, ↓p_eq, ↓p_ne, ↓p_ty, ↓p_items, ↓e_rv, ↓rv_2, mulOk_sm, ↓w_of _ _ e]
    exact hI _ _ ⟨rfl, rfl⟩
  rintro _ c' ⟨rfl, h0⟩
  rw [h0]; clear h0 c'
  refine seq (fun ρ' c' => (∃ u v, ρ' = [some (.ref 0), some (.ref n), s2, s3, s4, s5, s6, some r.D, u, v, none, some (segD a b), some (segD x y), none, none]) ∧ c' = C) (fun I hI => ?_) ?_
  · have c1 := fun c => crossing_e (T := T) 54 c a b x y hab hxy
    have c2 := fun c => crossing_e (T := T) 54 c a b y x hab hxy.symm
    have c3 := fun c => crossing_e (T := T) 54 c b a x y hab.symm hxy
    have c4 := fun c => crossing_e (T := T) 54 c b a y x hab.symm hxy.symm
    have c5 := fun c => crossing_e (T := T) 54 c x y a b hxy hab
    have c6 := fun c => crossing_e (T := T) 54 c x y b a hxy hab.symm
    have c7 := fun c => crossing_e (T := T) 54 c y x a b hxy.symm hab
    have c8 := fun c => crossing_e (T := T) 54 c y x b a hxy.symm hab.symm
    have pa := ha.pt
    have pb := hb.pt
    have px := hx.pt
    have py := hy.pt
    rw [bothR_r pa pb px py, hr2] at c2
    rw [bothR_l pa pb px py, hr2] at c3
    rw [bothR_l pa pb py px, bothR_r pa pb px py, hr2] at c4
    rw [bothR_s pa pb px py hab hxy, hr2] at c5
    rw [bothR_r px py pa pb, bothR_s pa pb px py hab hxy, hr2] at c6
    rw [bothR_l px py pa pb, bothR_s pa pb px py hab hxy, hr2] at c7
    rw [bothR_l px py pb pa, bothR_r px py pa pb, bothR_s pa pb px py hab hxy, hr2] at c8
    rw [hr2] at c1
    have tr := fun c Q E => t_repr r.D c Q E r1 r2 r3
    have cn := fun c Q E => cn_shown r.D c Q E r2
    simp (decide := true) only [↓ss_cons, ↓ss_nil, ↓s_set, ↓s_ret, ↓s_retN, ↓s_expr, ↓s_ife, ↓s_raise, ↓s_cnt, ↓s_brk, ↓s_pass, ↓s_setX, ↓s_for, ↓s_foS, ↓e_k, ↓e_tup, ↓e_lst, ↓e_call, ↓e_blt, ↓e_cmp, ↓e_bin, ↓e_neg, ↓e_and, ↓e_or, ↓e_not, ↓e_ite, ↓e_chain, ↓e_ix, ↓e_isi, ↓e_meth, ↓e_sl, ↓e_lam, ↓e_lc, ↓es_cons, ↓es_nil, ↓o_no, ↓b_add, ↓b_sub, ↓b_subB, ↓b_addB, ↓b_mul, ↓b_div, ↓b_mod, ↓b_pow, ↓b_addT, ↓b_mulT, ↓c_lt, ↓c_le, ↓c_gt, ↓c_ge, ↓c_isB, ↓c_isNotB, ↓c_isN, ↓c_isNotN, ↓t_abs, ↓t_int, ↓t_intB, ↓t_len, ↓t_min, ↓t_max, ↓t_tupT, ↓t_lstT, ↓i_v, ↓i_tup, ↓i_lst, ↓i_call, ↓i_ix, ↓i_sl, ↓lc_nil, ↓lc_cons, ↓w_lcB, ↓fo_nil, ↓fo_cons, ↓ts_nil, ↓ts_cons, ↓t_all, ↓t_any, ↓t_tup, ↓wI_int, ↓wR_ok, ↓v_0, ↓v_1, ↓v_2, ↓v_3, ↓v_4, ↓v_5, ↓v_6, ↓v_7, ↓v_8, ↓v_9, ↓v_10, ↓v_11, ↓v_12, ↓v_13, ↓v_14, ↓v_15, ↓v_16, ↓v_17, ↓v_18, ↓v_19, ↓v_20, ↓v_21, ↓v_22, ↓v_23, ↓v_24, ↓v_25, ↓v_26, ↓v_27, ↓v_28, ↓v_29, ↓v_30, ↓v_31, ↓as_0, ↓as_1, ↓as_2, ↓as_3, ↓as_4, ↓as_5, ↓as_6, ↓as_7, ↓as_8, ↓as_9, ↓as_10, ↓as_11, ↓as_12, ↓as_13, ↓as_14, ↓as_15, ↓as_16, ↓as_17, ↓as_18, ↓as_19, ↓as_20, ↓as_21, ↓as_22, ↓as_23, ↓as_24, ↓as_25, ↓as_26, ↓as_27, ↓as_28, ↓as_29, ↓as_30, ↓as_31, ↓as_t, ↓as_n, ↓as_c, ↓x1_0, ↓x2_0, ↓x2_1, ↓x3_0, ↓x3_1, ↓x3_2, ↓x4_0, ↓x4_1, ↓x4_2, ↓x4_3, ↓x5_0, ↓x5_1, ↓x5_2, ↓x5_3, ↓x5_4, ↓gc_id, ↓gc_bl, ↓gc_bl2, ↓gc_bl3, ↓gc_i, ↓gc_i2, ↓gc_n, ↓gc_n2, ↓gc_ex, ↓gc_ex0, ↓gc_ex2, ↓ce_ii, ↓ce_bb, ↓ce_2, ↓ce_3, ↓cn_ii, ↓cn_bb, ↓cn_2, ↓cn_3, ↓pk_bl, ↓pk_int, ↓pk_tn, ↓pk_tc, ↓pk_non, ↓nb_bl, ↓nb_int, ↓yt_non, ↓yt_bl, ↓yt_int, ↓yt_str, ↓yt_tup, ↓wp_tup, List.length_cons, List.length_nil, lim, Nat.reduceAdd, Nat.reduceLeDiff, true_and, and_true, is_ii, is_ib, is_bi, is_bb, is_tt, is_lt, is_it, is_nt, is_st, is_ni, is_si, is_ti, is_li, Bool.not_true, Bool.not_false, Bool.false_eq_true, if_true, if_false, abs_eq, Int.cast_ofNat_Int, BEq.rfl, beq_iff_eq, Int.reduceBEq, Int.reduceLT, Int.reduceLE, Int.reduceNeg, Int.reduceEq, List.all_cons, List.all_nil, id, Bool.and_true, Bool.true_and, Bool.and_self, same_nil', oc_some, oc_none, bls, wBs_some, wipe, Option.map_some, List.set_cons_zero, List.set_cons_succ, decide_true, decide_false, ↓reduceIte, decide_eq_true_eq, Bool.not_eq_true', ↓p_0, ↓p_1, ↓p_2, ↓p_len, ↓p_eq, ↓p_ne, ↓p_ty, ↓p_items, ↓e_rv, ↓rv_2, mulOk_sm, ↓w_of _ _ (c1 _), ↓w_of _ _ (c2 _), ↓w_of _ _ (c3 _), ↓w_of _ _ (c4 _), ↓w_of _ _ (c5 _), ↓w_of _ _ (c6 _), ↓w_of _ _ (c7 _), ↓w_of _ _ (c8 _), ↓tr, ↓cn]
    exact hI _ _ ⟨⟨_, _, rfl⟩, rfl⟩
  rintro _ c' ⟨⟨u, v, rfl⟩, h0⟩
  rw [h0]; clear h0 c'
  -- what no segment is
  have hlt := hC.lt
  have hcell : (C ++ [Cell.lst [a.d, b.d]] ++ [Cell.lst (badsP a b C.length)])[(C ++ [Cell.lst [a.d, b.d]]).length]? = some (.lst (badsP a b C.length)) := last_cell _ _
  obtain ⟨d, l, ep, hd, hB⟩ := lpick_e (T := T) 57 (c := C ++ [Cell.lst [a.d, b.d]] ++ [Cell.lst (badsP a b C.length)]) ((hC.app _).app _) hcell (by simp; omega) (by simp [badsP]) (by simp [badsP]) (fun z hz => by
    unfold badsP at hz
    simp only [List.mem_cons, List.not_mem_nil, or_false] at hz
    rcases hz with rfl | rfl | rfl | rfl | rfl | rfl <;> simp [D.bel, D.bels, D.nr_bel _ _ (Pn.nr _)])
  have hrow : ((C ++ [Cell.lst [a.d, b.d]] ++ [Cell.lst (badsP a b C.length)]).set n (.lst l))[C.length]? = some (.lst [a.d, b.d]) := by
    rw [List.getElem?_set_ne (by omega), List.getElem?_append_left (by simp)]
    exact last_cell _ _
  obtain ⟨hv, hs⟩ := bad_seg (a := a) (b := b) hrow ha.pt d hd
  generalize hC5 : (C ++ [Cell.lst [a.d, b.d]] ++ [Cell.lst (badsP a b C.length)]).set n (.lst l) = C5 at *
  refine seq (fun ρ' c' => ρ' = [some (.ref 0), some (.ref n), s2, s3, s4, s5, s6, some r.D, u, v, some d, some (segD a b), some (segD x y), none, none] ∧ c' = C5) (fun I hI => ?_) ?_
  · unfold badsP at ep
    simp (decide := true) only [↓ss_cons, ↓ss_nil, ↓s_set, ↓s_ret, ↓s_retN, ↓s_expr, ↓s_ife, ↓s_raise, ↓s_cnt, ↓s_brk, ↓s_pass, ↓s_setX, ↓s_for, ↓s_foS, ↓e_k, ↓e_tup, ↓e_lst, ↓e_call, ↓e_blt, ↓e_cmp, ↓e_bin, ↓e_neg, ↓e_and, ↓e_or, ↓e_not, ↓e_ite, ↓e_chain, ↓e_ix, ↓e_isi, ↓e_meth, ↓e_sl, ↓e_lam, ↓e_lc, ↓es_cons, ↓es_nil, ↓o_no, ↓b_add, ↓b_sub, ↓b_subB, ↓b_addB, ↓b_mul, ↓b_div, ↓b_mod, ↓b_pow, ↓b_addT, ↓b_mulT, ↓c_lt, ↓c_le, ↓c_gt, ↓c_ge, ↓c_isB, ↓c_isNotB, ↓c_isN, ↓c_isNotN, ↓t_abs, ↓t_int, ↓t_intB, ↓t_len, ↓t_min, ↓t_max, ↓t_tupT, ↓t_lstT, ↓i_v, ↓i_tup, ↓i_lst, ↓i_call, ↓i_ix, ↓i_sl, ↓lc_nil, ↓lc_cons, ↓w_lcB, ↓fo_nil, ↓fo_cons, ↓ts_nil, ↓ts_cons, ↓t_all, ↓t_any, ↓t_tup, ↓wI_int, ↓wR_ok, ↓v_0, ↓v_1, ↓v_2, ↓v_3, ↓v_4, ↓v_5, ↓v_6, ↓v_7, ↓v_8, ↓v_9, ↓v_10, ↓v_11, ↓v_12, ↓v_13, ↓v_14, ↓v_15, ↓v_16, ↓v_17, ↓v_18, ↓v_19, ↓v_20, ↓v_21, ↓v_22, ↓v_23, ↓v_24, ↓v_25, ↓v_26, ↓v_27, ↓v_28, ↓v_29, ↓v_30, ↓v_31, ↓as_0, ↓as_1, ↓as_2, ↓as_3, ↓as_4, ↓as_5, ↓as_6, ↓as_7, ↓as_8, ↓as_9, ↓as_10, ↓as_11, ↓as_12, ↓as_13, ↓as_14, ↓as_15, ↓as_16, ↓as_17, ↓as_18, ↓as_19, ↓as_20, ↓as_21, ↓as_22, ↓as_23, ↓as_24, ↓as_25, ↓as_26, ↓as_27, ↓as_28, ↓as_29, ↓as_30, ↓as_31, ↓as_t, ↓as_n, ↓as_c, ↓x1_0, ↓x2_0, ↓x2_1, ↓x3_0, ↓x3_1, ↓x3_2, ↓x4_0, ↓x4_1, ↓x4_2, ↓x4_3, ↓x5_0, ↓x5_1, ↓x5_2, ↓x5_3, ↓x5_4, ↓gc_id, ↓gc_bl, ↓gc_bl2, ↓gc_bl3, ↓gc_i, ↓gc_i2, ↓gc_n, ↓gc_n2, ↓gc_ex, ↓gc_ex0, ↓gc_ex2, ↓ce_ii, ↓ce_bb, ↓ce_2, ↓ce_3, ↓cn_ii, ↓cn_bb, ↓cn_2, ↓cn_3, ↓pk_bl, ↓pk_int, ↓pk_tn, ↓pk_tc, ↓pk_non, ↓nb_bl, ↓nb_int, ↓yt_non, ↓yt_bl, ↓yt_int, ↓yt_str, ↓yt_tup, ↓wp_tup, List.length_cons, List.length_nil, lim, Nat.reduceAdd, Nat.reduceLeDiff, true_and, and_true, is_ii, is_ib, is_bi, is_bb, is_tt, is_lt, is_it, is_nt, is_st, is_ni, is_si, is_ti, is_li, Bool.not_true, Bool.not_false, Bool.false_eq_true, if_true, if_false, abs_eq, Int.cast_ofNat_Int, BEq.rfl, beq_iff_eq, Int.reduceBEq, Int.reduceLT, Int.reduceLE, Int.reduceNeg, Int.reduceEq, List.all_cons, List.all_nil, id, Bool.and_true, Bool.true_and, Bool.and_self, same_nil', oc_some, oc_none, bls, wBs_some, wipe, Option.map_some, List.set_cons_zero, List.set_cons_succ, decide_true, decide_false, ↓reduceIte, decide_eq_true_eq, Bool.not_eq_true', ↓p_0, ↓p_1, ↓p_2, ↓p_len, ↓p_eq, ↓p_ne, ↓p_ty, ↓p_items, ↓e_rv, ↓rv_2, mulOk_sm, List.cons_append, List.nil_append, ↓w_of _ _ ep]
    exact hI _ _ ⟨rfl, rfl⟩
  rintro _ c' ⟨rfl, h0⟩
  rw [h0]; clear h0 c'
  have hL : ∀ (Q : QD) (r : R D), wL (T.thks.lookup "_law_refused") T.excs Q r = wR r (fun _ c1 => Q (.bl false) c1) (fun x c1 => x ∈ T.excs ∧ wO ((List.lookup x [("BadShape", D.bl true)]).map some) fun d => Q d c1) := fun _ _ => rfl
  have hX : ("BadShape" ∈ T.excs) = True := by decide
  have hk : (List.lookup "BadShape" [("BadShape", D.bl true)]).map some = some (some (.bl true)) := rfl
  obtain ⟨g1, _⟩ := call_bad 54 C5 hx hy hxy hv hs
  obtain ⟨_, g2⟩ := call_bad 54 C5 ha hb hab hv hs
  simp (decide := true) only [↓ss_cons, ↓ss_nil, ↓s_set, ↓s_ret, ↓s_retN, ↓s_expr, ↓s_ife, ↓s_raise, ↓s_cnt, ↓s_brk, ↓s_pass, ↓s_setX, ↓s_for, ↓s_foS, ↓e_k, ↓e_tup, ↓e_lst, ↓e_call, ↓e_blt, ↓e_cmp, ↓e_bin, ↓e_neg, ↓e_and, ↓e_or, ↓e_not, ↓e_ite, ↓e_chain, ↓e_ix, ↓e_isi, ↓e_meth, ↓e_sl, ↓e_lam, ↓e_lc, ↓es_cons, ↓es_nil, ↓o_no, ↓b_add, ↓b_sub, ↓b_subB, ↓b_addB, ↓b_mul, ↓b_div, ↓b_mod, ↓b_pow, ↓b_addT, ↓b_mulT, ↓c_lt, ↓c_le, ↓c_gt, ↓c_ge, ↓c_isB, ↓c_isNotB, ↓c_isN, ↓c_isNotN, ↓t_abs, ↓t_int, ↓t_intB, ↓t_len, ↓t_min, ↓t_max, ↓t_tupT, ↓t_lstT, ↓i_v, ↓i_tup, ↓i_lst, ↓i_call, ↓i_ix, ↓i_sl, ↓lc_nil, ↓lc_cons, ↓w_lcB, ↓fo_nil, ↓fo_cons, ↓ts_nil, ↓ts_cons, ↓t_all, ↓t_any, ↓t_tup, ↓wI_int, ↓wR_ok, ↓v_0, ↓v_1, ↓v_2, ↓v_3, ↓v_4, ↓v_5, ↓v_6, ↓v_7, ↓v_8, ↓v_9, ↓v_10, ↓v_11, ↓v_12, ↓v_13, ↓v_14, ↓v_15, ↓v_16, ↓v_17, ↓v_18, ↓v_19, ↓v_20, ↓v_21, ↓v_22, ↓v_23, ↓v_24, ↓v_25, ↓v_26, ↓v_27, ↓v_28, ↓v_29, ↓v_30, ↓v_31, ↓as_0, ↓as_1, ↓as_2, ↓as_3, ↓as_4, ↓as_5, ↓as_6, ↓as_7, ↓as_8, ↓as_9, ↓as_10, ↓as_11, ↓as_12, ↓as_13, ↓as_14, ↓as_15, ↓as_16, ↓as_17, ↓as_18, ↓as_19, ↓as_20, ↓as_21, ↓as_22, ↓as_23, ↓as_24, ↓as_25, ↓as_26, ↓as_27, ↓as_28, ↓as_29, ↓as_30, ↓as_31, ↓as_t, ↓as_n, ↓as_c, ↓x1_0, ↓x2_0, ↓x2_1, ↓x3_0, ↓x3_1, ↓x3_2, ↓x4_0, ↓x4_1, ↓x4_2, ↓x4_3, ↓x5_0, ↓x5_1, ↓x5_2, ↓x5_3, ↓x5_4, ↓gc_id, ↓gc_bl, ↓gc_bl2, ↓gc_bl3, ↓gc_i, ↓gc_i2, ↓gc_n, ↓gc_n2, ↓gc_ex, ↓gc_ex0, ↓gc_ex2, ↓ce_ii, ↓ce_bb, ↓ce_2, ↓ce_3, ↓cn_ii, ↓cn_bb, ↓cn_2, ↓cn_3, ↓pk_bl, ↓pk_int, ↓pk_tn, ↓pk_tc, ↓pk_non, ↓nb_bl, ↓nb_int, ↓yt_non, ↓yt_bl, ↓yt_int, ↓yt_str, ↓yt_tup, ↓wp_tup, List.length_cons, List.length_nil, lim, Nat.reduceAdd, Nat.reduceLeDiff, true_and, and_true, is_ii, is_ib, is_bi, is_bb, is_tt, is_lt, is_it, is_nt, is_st, is_ni, is_si, is_ti, is_li, Bool.not_true, Bool.not_false, Bool.false_eq_true, if_true, if_false, abs_eq, Int.cast_ofNat_Int, BEq.rfl, beq_iff_eq, Int.reduceBEq, Int.reduceLT, Int.reduceLE, Int.reduceNeg, Int.reduceEq, List.all_cons, List.all_nil, id, Bool.and_true, Bool.true_and, Bool.and_self, same_nil', oc_some, oc_none, bls, wBs_some, wipe, Option.map_some, List.set_cons_zero, List.set_cons_succ, decide_true, decide_false, ↓reduceIte, decide_eq_true_eq, Bool.not_eq_true', ↓p_0, ↓p_1, ↓p_2, ↓p_len, ↓p_eq, ↓p_ne, ↓p_ty, ↓p_items, ↓e_rv, ↓rv_2, mulOk_sm, ↓hL, ↓w_ex _ _ g1, ↓w_ex _ _ g2, hX, hk, wO_some]
  exact gc_true _ _
end K03
end

section
set_option linter.all false
set_option autoImplicit false
set_option maxRecDepth 20000
namespace K03
open G
open PySem (Str Operator CmpOp PyData)
def fars (a b : Pn) : List Pn := (List.range 13).map fun (j : Nat) => farP a b (-4 + j)
--def L0 := 15; 0=D.ref 0; 1=D.ref n; 2=D.int so; 11=segD a b; 12=segD x y
theorem lcT {c : Cells} {a b : Pn} (ha : a.In 12) (hb : b.In 12) (j : Nat) (hj : j < 13) (s2 s3 s4 s5 s6 s7 s8 : Option D) (Γ : Ctx) (hΓ : Γ.call = callD T 59) : wR (lcB Γ (.v 14) [13, 14] [] (.call "_law_made" [(.bin .Add (.bin .Mult (.bin .Mult (.ix (.v 3) (.k (.int (0)))) (.ix (.v 4) (.k (.int (2))))) (.bin .Sub (.k (.int (4))) (.v 14))) (.bin .Mult (.bin .Mult (.ix (.v 4) (.k (.int (0)))) (.ix (.v 3) (.k (.int (2))))) (.v 14))), (.bin .Add (.bin .Mult (.bin .Mult (.ix (.v 3) (.k (.int (1)))) (.ix (.v 4) (.k (.int (2))))) (.bin .Sub (.k (.int (4))) (.v 14))) (.bin .Mult (.bin .Mult (.ix (.v 4) (.k (.int (1)))) (.ix (.v 3) (.k (.int (2))))) (.v 14))), (.bin .Mult (.bin .Mult (.k (.int (4))) (.ix (.v 3) (.k (.int (2))))) (.ix (.v 4) (.k (.int (2)))))]) [s2, s3, s4, some a.d, some b.d, s5, s6, none, none, none, none, s7, s8, none, none] (.int (-4 + (j : Int))) c) (fun o c' => o = some (farP a b (-4 + j)).d ∧ c' = c) (fun _ _ => False) := by
  have pa := ha.pt.pos
  have pb := hb.pt.pos
  haveI oa := ha.ok (by decide)
  haveI ob := hb.ok (by decide)
  obtain ⟨_, _, _, _⟩ := ha
  obtain ⟨_, _, _, _⟩ := hb
  haveI : Sm 4 (-4 + (j : Int)) := ⟨by omega⟩
  haveI : Sm 4 (4 - (-4 + (j : Int))) := ⟨by omega⟩
  have hw : 4 * a.w * b.w ≠ 0 := by have := Int.mul_pos (Int.mul_pos (by decide : (0 : Int) < 4) pa) pb; omega
  have hm := fun X Y c => made_e (T := T) 57 c "_law_made" "_law_common" X Y (4 * a.w * b.w) (by decide) hw
  rw [w_lcB]; simp only [wipe, List.set_cons_succ, List.set_cons_zero]
  unfold farP
  simp (decide := true) only [↓ss_cons, ↓ss_nil, ↓s_set, ↓s_ret, ↓s_retN, ↓s_expr, ↓s_ife, ↓s_raise, ↓s_cnt, ↓s_brk, ↓s_pass, ↓s_setX, ↓s_for, ↓s_foS, ↓e_k, ↓e_tup, ↓e_lst, ↓e_call, ↓e_blt, ↓e_cmp, ↓e_bin, ↓e_neg, ↓e_and, ↓e_or, ↓e_not, ↓e_ite, ↓e_chain, ↓e_ix, ↓e_isi, ↓e_meth, ↓e_sl, ↓e_lam, ↓e_lc, ↓es_cons, ↓es_nil, ↓o_no, ↓b_add, ↓b_sub, ↓b_subB, ↓b_addB, ↓b_mul, ↓b_div, ↓b_mod, ↓b_pow, ↓b_addT, ↓b_mulT, ↓c_lt, ↓c_le, ↓c_gt, ↓c_ge, ↓c_isB, ↓c_isNotB, ↓c_isN, ↓c_isNotN, ↓t_abs, ↓t_int, ↓t_intB, ↓t_len, ↓t_min, ↓t_max, ↓t_tupT, ↓t_lstT, ↓i_v, ↓i_tup, ↓i_lst, ↓i_call, ↓i_ix, ↓i_sl, ↓lc_nil, ↓lc_cons, ↓w_lcB, ↓fo_nil, ↓fo_cons, ↓ts_nil, ↓ts_cons, ↓t_all, ↓t_any, ↓t_tup, ↓wI_int, ↓wR_ok, ↓v_0, ↓v_1, ↓v_2, ↓v_3, ↓v_4, ↓v_5, ↓v_6, ↓v_7, ↓v_8, ↓v_9, ↓v_10, ↓v_11, ↓v_12, ↓v_13, ↓v_14, ↓v_15, ↓v_16, ↓v_17, ↓v_18, ↓v_19, ↓v_20, ↓v_21, ↓v_22, ↓v_23, ↓v_24, ↓v_25, ↓v_26, ↓v_27, ↓v_28, ↓v_29, ↓v_30, ↓v_31, ↓as_0, ↓as_1, ↓as_2, ↓as_3, ↓as_4, ↓as_5, ↓as_6, ↓as_7, ↓as_8, ↓as_9, ↓as_10, ↓as_11, ↓as_12, ↓as_13, ↓as_14, ↓as_15, ↓as_16, ↓as_17, ↓as_18, ↓as_19, ↓as_20, ↓as_21, ↓as_22, ↓as_23, ↓as_24, ↓as_25, ↓as_26, ↓as_27, ↓as_28, ↓as_29, ↓as_30, ↓as_31, ↓as_t, ↓as_n, ↓as_c, ↓x1_0, ↓x2_0, ↓x2_1, ↓x3_0, ↓x3_1, ↓x3_2, ↓x4_0, ↓x4_1, ↓x4_2, ↓x4_3, ↓x5_0, ↓x5_1, ↓x5_2, ↓x5_3, ↓x5_4, ↓gc_id, ↓gc_bl, ↓gc_bl2, ↓gc_bl3, ↓gc_i, ↓gc_i2, ↓gc_n, ↓gc_n2, ↓gc_ex, ↓gc_ex0, ↓gc_ex2, ↓ce_ii, ↓ce_bb, ↓ce_2, ↓ce_3, ↓cn_ii, ↓cn_bb, ↓cn_2, ↓cn_3, ↓pk_bl, ↓pk_int, ↓pk_tn, ↓pk_tc, ↓pk_non, ↓nb_bl, ↓nb_int, ↓yt_non, ↓yt_bl, ↓yt_int, ↓yt_str, ↓yt_tup, ↓wp_tup, List.length_cons, List.length_nil, lim, Nat.reduceAdd, Nat.reduceLeDiff, true_and, and_true, is_ii, is_ib, is_bi, is_bb, is_tt, is_lt, is_it, is_nt, is_st, is_ni, is_si, is_ti, is_li, Bool.not_true, Bool.not_false, Bool.false_eq_true, if_true, if_false, abs_eq, Int.cast_ofNat_Int, BEq.rfl, beq_iff_eq, Int.reduceBEq, Int.reduceLT, Int.reduceLE, Int.reduceNeg, Int.reduceEq, List.all_cons, List.all_nil, id, Bool.and_true, Bool.true_and, Bool.and_self, same_nil', oc_some, oc_none, bls, wBs_some, wipe, Option.map_some, List.set_cons_zero, List.set_cons_succ, decide_true, decide_false, ↓reduceIte, decide_eq_true_eq, Bool.not_eq_true', ↓p_0, ↓p_1, ↓p_2, ↓p_len, ↓p_eq, ↓p_ne, ↓p_ty, ↓p_items, ↓e_rv, ↓rv_2, mulOk_sm, hΓ, ↓w_of _ _ (hm _ _ _)]
/-- the second segment on the first one's line -/
theorem far_st {C : Cells} {n : Nat} {a b x y : Pn} {so : Int} {r : List IS} {K : SK} (hC : Bx C n) (ha : a.In 12) (hb : b.In 12) (hx : x.In 12) (hy : y.In 12) (hab : a ≠ b) (hxy : x ≠ y)
    (h : ∀ (C' : Cells) (s3 s4 s5 s6 : Option D) (x y : Pn), Bx C' n → x.In 40 → y.In 40 → x ≠ y → wS (dSs ⟨callD T 59, T.thks, T.excs⟩ r [some (.ref 0), some (.ref n), some (.int so), s3, s4, s5, s6, none, none, none, none, some (segD a b), some (segD x y), none, none] C') K) :
    wS (dSs ⟨callD T 59, T.thks, T.excs⟩ ((fn_law.body.drop 3).take 1 ++ r) [some (D.ref 0), some (D.ref n), some (D.int so), none, none, none, none, none, none, none, none, some (segD a b), some (segD x y), none, none] C) K := by
  unfold fn_law
  dsimp only [List.drop, List.take, List.cons_append, List.nil_append]
  haveI oa := ha.ok (by decide)
  haveI ob := hb.ok (by decide)
  by_cases h0 : so = 0
  · subst h0
    rw [ss_cons, s_ife]
    have e0 : ((0 : Int) == 0) = true := rfl
    simp (decide := true) only [↓e_cmp, ↓v_2, ↓e_k, ↓ce_ii, ↓pk_bl, e0, if_true]
    refine seq (fun ρ' c' => ρ' = [some (.ref 0), some (.ref n), some (.int 0), some a.d, some b.d, none, none, none, none, none, none, some (segD a b), some (segD x y), none, none] ∧ c' = C) (fun I hI => ?_) ?_
    · simp (decide := true) only [↓ss_cons, ↓ss_nil, ↓s_set, ↓s_ret, ↓s_retN, ↓s_expr, ↓s_ife, ↓s_raise, ↓s_cnt, ↓s_brk, ↓s_pass, ↓s_setX, ↓s_for, ↓s_foS, ↓e_k, ↓e_tup, ↓e_lst, ↓e_call, ↓e_blt, ↓e_cmp, ↓e_bin, ↓e_neg, ↓e_and, ↓e_or, ↓e_not, ↓e_ite, ↓e_chain, ↓e_ix, ↓e_isi, ↓e_meth, ↓e_sl, ↓e_lam, ↓e_lc, ↓es_cons, ↓es_nil, ↓o_no, ↓b_add, ↓b_sub, ↓b_subB, ↓b_addB, ↓b_mul, ↓b_div, ↓b_mod, ↓b_pow, ↓b_addT, ↓b_mulT, ↓c_lt, ↓c_le, ↓c_gt, ↓c_ge, ↓c_isB, ↓c_isNotB, ↓c_isN, ↓c_isNotN, ↓t_abs, ↓t_int, ↓t_intB, ↓t_len, ↓t_min, ↓t_max, ↓t_tupT, ↓t_lstT, ↓i_v, ↓i_tup, ↓i_lst, ↓i_call, ↓i_ix, ↓i_sl, ↓w_lcB, ↓ts_nil, ↓ts_cons, ↓t_all, ↓t_any, ↓t_tup, ↓wI_int, ↓wR_ok, ↓v_0, ↓v_1, ↓v_2, ↓v_3, ↓v_4, ↓v_5, ↓v_6, ↓v_7, ↓v_8, ↓v_9, ↓v_10, ↓v_11, ↓v_12, ↓v_13, ↓v_14, ↓v_15, ↓v_16, ↓v_17, ↓v_18, ↓v_19, ↓v_20, ↓v_21, ↓v_22, ↓v_23, ↓v_24, ↓v_25, ↓v_26, ↓v_27, ↓v_28, ↓v_29, ↓v_30, ↓v_31, ↓as_0, ↓as_1, ↓as_2, ↓as_3, ↓as_4, ↓as_5, ↓as_6, ↓as_7, ↓as_8, ↓as_9, ↓as_10, ↓as_11, ↓as_12, ↓as_13, ↓as_14, ↓as_15, ↓as_16, ↓as_17, ↓as_18, ↓as_19, ↓as_20, ↓as_21, ↓as_22, ↓as_23, ↓as_24, ↓as_25, ↓as_26, ↓as_27, ↓as_28, ↓as_29, ↓as_30, ↓as_31, ↓as_t, ↓as_n, ↓as_c, ↓x1_0, ↓x2_0, ↓x2_1, ↓x3_0, ↓x3_1, ↓x3_2, ↓x4_0, ↓x4_1, ↓x4_2, ↓x4_3, ↓x5_0, ↓x5_1, ↓x5_2, ↓x5_3, ↓x5_4, ↓gc_id, ↓gc_bl, ↓gc_bl2, ↓gc_bl3, ↓gc_i, ↓gc_i2, ↓gc_n, ↓gc_n2, ↓gc_ex, ↓gc_ex0, ↓gc_ex2, ↓ce_ii, ↓ce_bb, ↓ce_2, ↓ce_3, ↓cn_ii, ↓cn_bb, ↓cn_2, ↓cn_3, ↓pk_bl, ↓pk_int, ↓pk_tn, ↓pk_tc, ↓pk_non, ↓nb_bl, ↓nb_int, ↓yt_non, ↓yt_bl, ↓yt_int, ↓yt_str, ↓yt_tup, ↓wp_tup, List.length_cons, List.length_nil, lim, Nat.reduceAdd, Nat.reduceLeDiff, true_and, and_true, is_ii, is_ib, is_bi, is_bb, is_tt, is_lt, is_it, is_nt, is_st, is_ni, is_si, is_ti, is_li, Bool.not_true, Bool.not_false, Bool.false_eq_true, if_true, if_false, abs_eq, Int.cast_ofNat_Int, BEq.rfl, beq_iff_eq, Int.reduceBEq, Int.reduceLT, Int.reduceLE, Int.reduceNeg, Int.reduceEq, List.all_cons, List.all_nil, id, Bool.and_true, Bool.true_and, Bool.and_self, same_nil', oc_some, oc_none, bls, wBs_some, wipe, Option.map_some, List.set_cons_zero, List.set_cons_succ, decide_true, decide_false, ↓reduceIte, decide_eq_true_eq, Bool.not_eq_true', ↓p_0, ↓p_1, ↓p_2, ↓p_len, ↓p_eq, ↓p_ne, ↓p_ty, ↓p_items, ↓e_rv, ↓rv_2, mulOk_sm]
      exact hI _ _ ⟨rfl, rfl⟩
    rintro _ c' ⟨rfl, h0⟩
    rw [h0]; clear h0 c'
    refine seq (fun ρ' c' => ρ' = [some (.ref 0), some (.ref n), some (.int 0), some a.d, some b.d, some (.ref C.length), none, none, none, none, none, some (segD a b), some (segD x y), none, none] ∧ c' = C ++ [.lst ((fars a b).map Pn.d)]) (fun I hI => ?_) ?_
    · rw [s_set, e_lc, i_rng]
      have hr : rngOf [.int (-4), .int 9] = some ((List.range 13).map fun (j : Nat) => D.int (-4 + j)) := rfl
      simp (decide := true) only [↓ss_cons, ↓ss_nil, ↓s_set, ↓s_ret, ↓s_retN, ↓s_expr, ↓s_ife, ↓s_raise, ↓s_cnt, ↓s_brk, ↓s_pass, ↓s_setX, ↓s_for, ↓s_foS, ↓e_k, ↓e_tup, ↓e_lst, ↓e_call, ↓e_blt, ↓e_cmp, ↓e_bin, ↓e_neg, ↓e_and, ↓e_or, ↓e_not, ↓e_ite, ↓e_chain, ↓e_ix, ↓e_isi, ↓e_meth, ↓e_sl, ↓e_lam, ↓e_lc, ↓es_cons, ↓es_nil, ↓o_no, ↓b_add, ↓b_sub, ↓b_subB, ↓b_addB, ↓b_mul, ↓b_div, ↓b_mod, ↓b_pow, ↓b_addT, ↓b_mulT, ↓c_lt, ↓c_le, ↓c_gt, ↓c_ge, ↓c_isB, ↓c_isNotB, ↓c_isN, ↓c_isNotN, ↓t_abs, ↓t_int, ↓t_intB, ↓t_len, ↓t_min, ↓t_max, ↓t_tupT, ↓t_lstT, ↓i_v, ↓i_tup, ↓i_lst, ↓i_call, ↓i_ix, ↓i_sl, ↓w_lcB, ↓ts_nil, ↓ts_cons, ↓t_all, ↓t_any, ↓t_tup, ↓wI_int, ↓wR_ok, ↓v_0, ↓v_1, ↓v_2, ↓v_3, ↓v_4, ↓v_5, ↓v_6, ↓v_7, ↓v_8, ↓v_9, ↓v_10, ↓v_11, ↓v_12, ↓v_13, ↓v_14, ↓v_15, ↓v_16, ↓v_17, ↓v_18, ↓v_19, ↓v_20, ↓v_21, ↓v_22, ↓v_23, ↓v_24, ↓v_25, ↓v_26, ↓v_27, ↓v_28, ↓v_29, ↓v_30, ↓v_31, ↓as_0, ↓as_1, ↓as_2, ↓as_3, ↓as_4, ↓as_5, ↓as_6, ↓as_7, ↓as_8, ↓as_9, ↓as_10, ↓as_11, ↓as_12, ↓as_13, ↓as_14, ↓as_15, ↓as_16, ↓as_17, ↓as_18, ↓as_19, ↓as_20, ↓as_21, ↓as_22, ↓as_23, ↓as_24, ↓as_25, ↓as_26, ↓as_27, ↓as_28, ↓as_29, ↓as_30, ↓as_31, ↓as_t, ↓as_n, ↓as_c, ↓x1_0, ↓x2_0, ↓x2_1, ↓x3_0, ↓x3_1, ↓x3_2, ↓x4_0, ↓x4_1, ↓x4_2, ↓x4_3, ↓x5_0, ↓x5_1, ↓x5_2, ↓x5_3, ↓x5_4, ↓gc_id, ↓gc_bl, ↓gc_bl2, ↓gc_bl3, ↓gc_i, ↓gc_i2, ↓gc_n, ↓gc_n2, ↓gc_ex, ↓gc_ex0, ↓gc_ex2, ↓ce_ii, ↓ce_bb, ↓ce_2, ↓ce_3, ↓cn_ii, ↓cn_bb, ↓cn_2, ↓cn_3, ↓pk_bl, ↓pk_int, ↓pk_tn, ↓pk_tc, ↓pk_non, ↓nb_bl, ↓nb_int, ↓yt_non, ↓yt_bl, ↓yt_int, ↓yt_str, ↓yt_tup, ↓wp_tup, List.length_cons, List.length_nil, lim, Nat.reduceAdd, Nat.reduceLeDiff, true_and, and_true, is_ii, is_ib, is_bi, is_bb, is_tt, is_lt, is_it, is_nt, is_st, is_ni, is_si, is_ti, is_li, Bool.not_true, Bool.not_false, Bool.false_eq_true, if_true, if_false, abs_eq, Int.cast_ofNat_Int, BEq.rfl, beq_iff_eq, Int.reduceBEq, Int.reduceLT, Int.reduceLE, Int.reduceNeg, Int.reduceEq, List.all_cons, List.all_nil, id, Bool.and_true, Bool.true_and, Bool.and_self, same_nil', oc_some, oc_none, bls, wBs_some, wipe, Option.map_some, List.set_cons_zero, List.set_cons_succ, decide_true, decide_false, ↓reduceIte, decide_eq_true_eq, Bool.not_eq_true', ↓p_0, ↓p_1, ↓p_2, ↓p_len, ↓p_eq, ↓p_ne, ↓p_ty, ↓p_items, ↓e_rv, ↓rv_2, mulOk_sm, hr, Option.map_some, wP_some]
      refine go_lcA (fun (j : Nat) => D.int (-4 + j)) (fun j => (farP a b (-4 + j)).d) (fun j hj => ?_) ?_
      · exact wR_imp (lcT ha hb j (List.mem_range.mp hj) _ _ _ _ _ _ _ _ rfl) (fun _ _ z => z) fun _ _ z => z.elim
      · have e : (List.range 13).map (fun j : Nat => (farP a b (-4 + j)).d) = (fars a b).map Pn.d := by unfold fars; rw [List.map_map]; rfl
        rw [e]
        exact ⟨by rw [List.length_map]; unfold fars; rw [List.length_map, List.length_range]; decide, hI _ _ ⟨rfl, rfl⟩⟩
    rintro _ c' ⟨rfl, h0⟩
    rw [h0]; clear h0 c'
    obtain ⟨i, l1, e1, i1, i2, b1⟩ := take_e (T := T) 58 (m := 13) (hC.app [.lst ((fars a b).map Pn.d)]) (by decide) ⟨by decide⟩
    obtain ⟨j, l2, e2, j1, j2, b2⟩ := take_e (T := T) 58 (m := 12) b1 (by decide) ⟨by decide⟩
    simp only [List.set_set] at e2 b2
    have hlt := hC.lt
    have hcell : ∀ l, ((C ++ [Cell.lst ((fars a b).map Pn.d)]).set n (.lst l))[C.length]? = some (.lst ((fars a b).map Pn.d)) := fun l => by
      rw [List.getElem?_set_ne (by omega)]
      exact last_cell _ _
    have hat : ∀ (l : List D) (z : Int), 0 ≤ z → z < 13 → ∀ (Q : QD) (E : QX), wR (opIx (.ref C.length) (.int z) ((C ++ [Cell.lst ((fars a b).map Pn.d)]).set n (.lst l))) Q E = Q (farP a b (-4 + z)).d ((C ++ [Cell.lst ((fars a b).map Pn.d)]).set n (.lst l)) := fun l z z1 z2 Q E => by
      obtain ⟨m, rfl⟩ : ∃ m : Nat, z = m := ⟨z.toNat, by omega⟩
      have hl : m < ((fars a b).map Pn.d).length := by unfold fars; simp; omega
      rw [ix_at (hcell l) m hl]
      simp [fars]
    have hj : 0 ≤ (i + 1 + j) % 13 ∧ (i + 1 + j) % 13 < 13 := ⟨Int.emod_nonneg _ (by decide), Int.emod_lt_of_pos _ (by decide)⟩
    simp (decide := true) only [↓ss_cons, ↓ss_nil, ↓s_set, ↓s_ret, ↓s_retN, ↓s_expr, ↓s_ife, ↓s_raise, ↓s_cnt, ↓s_brk, ↓s_pass, ↓s_setX, ↓s_for, ↓s_foS, ↓e_k, ↓e_tup, ↓e_lst, ↓e_call, ↓e_blt, ↓e_cmp, ↓e_bin, ↓e_neg, ↓e_and, ↓e_or, ↓e_not, ↓e_ite, ↓e_chain, ↓e_ix, ↓e_isi, ↓e_meth, ↓e_sl, ↓e_lam, ↓e_lc, ↓es_cons, ↓es_nil, ↓o_no, ↓b_add, ↓b_sub, ↓b_subB, ↓b_addB, ↓b_mul, ↓b_div, ↓b_mod, ↓b_pow, ↓b_addT, ↓b_mulT, ↓c_lt, ↓c_le, ↓c_gt, ↓c_ge, ↓c_isB, ↓c_isNotB, ↓c_isN, ↓c_isNotN, ↓t_abs, ↓t_int, ↓t_intB, ↓t_len, ↓t_min, ↓t_max, ↓t_tupT, ↓t_lstT, ↓i_v, ↓i_tup, ↓i_lst, ↓i_call, ↓i_ix, ↓i_sl, ↓w_lcB, ↓ts_nil, ↓ts_cons, ↓t_all, ↓t_any, ↓t_tup, ↓wI_int, ↓wR_ok, ↓v_0, ↓v_1, ↓v_2, ↓v_3, ↓v_4, ↓v_5, ↓v_6, ↓v_7, ↓v_8, ↓v_9, ↓v_10, ↓v_11, ↓v_12, ↓v_13, ↓v_14, ↓v_15, ↓v_16, ↓v_17, ↓v_18, ↓v_19, ↓v_20, ↓v_21, ↓v_22, ↓v_23, ↓v_24, ↓v_25, ↓v_26, ↓v_27, ↓v_28, ↓v_29, ↓v_30, ↓v_31, ↓as_0, ↓as_1, ↓as_2, ↓as_3, ↓as_4, ↓as_5, ↓as_6, ↓as_7, ↓as_8, ↓as_9, ↓as_10, ↓as_11, ↓as_12, ↓as_13, ↓as_14, ↓as_15, ↓as_16, ↓as_17, ↓as_18, ↓as_19, ↓as_20, ↓as_21, ↓as_22, ↓as_23, ↓as_24, ↓as_25, ↓as_26, ↓as_27, ↓as_28, ↓as_29, ↓as_30, ↓as_31, ↓as_t, ↓as_n, ↓as_c, ↓x1_0, ↓x2_0, ↓x2_1, ↓x3_0, ↓x3_1, ↓x3_2, ↓x4_0, ↓x4_1, ↓x4_2, ↓x4_3, ↓x5_0, ↓x5_1, ↓x5_2, ↓x5_3, ↓x5_4, ↓gc_id, ↓gc_bl, ↓gc_bl2, ↓gc_bl3, ↓gc_i, ↓gc_i2, ↓gc_n, ↓gc_n2, ↓gc_ex, ↓gc_ex0, ↓gc_ex2, ↓ce_ii, ↓ce_bb, ↓ce_2, ↓ce_3, ↓cn_ii, ↓cn_bb, ↓cn_2, ↓cn_3, ↓pk_bl, ↓pk_int, ↓pk_tn, ↓pk_tc, ↓pk_non, ↓nb_bl, ↓nb_int, ↓yt_non, ↓yt_bl, ↓yt_int, ↓yt_str, ↓yt_tup, ↓wp_tup, List.length_cons, List.length_nil, lim, Nat.reduceAdd, Nat.reduceLeDiff, true_and, and_true, is_ii, is_ib, is_bi, is_bb, is_tt, is_lt, is_it, is_nt, is_st, is_ni, is_si, is_ti, is_li, Bool.not_true, Bool.not_false, Bool.false_eq_true, if_true, if_false, abs_eq, Int.cast_ofNat_Int, BEq.rfl, beq_iff_eq, Int.reduceBEq, Int.reduceLT, Int.reduceLE, Int.reduceNeg, Int.reduceEq, List.all_cons, List.all_nil, id, Bool.and_true, Bool.true_and, Bool.and_self, same_nil', oc_some, oc_none, bls, wBs_some, wipe, Option.map_some, List.set_cons_zero, List.set_cons_succ, decide_true, decide_false, ↓reduceIte, decide_eq_true_eq, Bool.not_eq_true', ↓p_0, ↓p_1, ↓p_2, ↓p_len, ↓p_eq, ↓p_ne, ↓p_ty, ↓p_items, ↓e_rv, ↓rv_2, mulOk_sm, ↓w_of _ _ e1, ↓w_of _ _ e2, ↓hat _ _ i1 i2, ↓hat _ _ hj.1 hj.2]
    exact h _ _ _ _ _ _ _ b2 (farP_in ha hb (by omega) (by omega)) (farP_in ha hb (by omega) (by omega)) (farP_inj ha.pt hb.pt hab (by omega))
  · have e0 : (so == 0) = false := by simpa using h0
    rw [ss_cons, s_ife]
    simp (decide := true) only [↓e_cmp, ↓v_2, ↓e_k, ↓ce_ii, ↓pk_bl, e0, Bool.false_eq_true, if_false, ↓ss_nil]
    exact h _ _ _ _ _ _ _ hC (hx.mono (by decide)) (hy.mono (by decide)) hxy
theorem law_pure (ns : List Int) (hl : ns.length ≤ 63) (s : Cell) (hs : s = .frz (ns.map D.int) ∨ s = .lst (ns.map D.int)) : ∃ c, callD T 60 "law" [.ref 0] [s] = .ok (.bl true) c := by
  refine ends_of (call_body (fn := fn_law) rfl rfl ?_)
  have e0 := box_e (T := T) 58 ns s hl hs
  have hB := box_bx s ns
  have fst := @far_st
  have lst := @law3
  unfold fn_law at fst lst ⊢
  dsimp only [List.drop, List.take, List.cons_append, List.nil_append] at fst lst
  show wS (dSs _ _ [some (D.ref 0), none, none, none, none, none, none, none, none, none, none, none, none, none, none] [s]) (KL [s])
  dsimp only
  generalize [s, Cell.lst ((ns.map fun z => (z.natAbs : Int)).map .int), Cell.lst [.int 0, .int 0, .int 0, .ref 1]] = C at e0 hB
  refine seq (fun ρ' c' => ρ' = [some (D.ref 0), some (D.ref 2), none, none, none, none, none, none, none, none, none, none, none, none, none] ∧ c' = C) (fun I hI => ?_) ?_
  · simp (decide := true) only [↓ss_cons, ↓ss_nil, ↓s_set, ↓s_ret, ↓s_retN, ↓s_expr, ↓s_ife, ↓s_raise, ↓s_cnt, ↓s_brk, ↓s_pass, ↓s_setX, ↓s_for, ↓s_foS, ↓e_k, ↓e_tup, ↓e_lst, ↓e_call, ↓e_blt, ↓e_cmp, ↓e_bin, ↓e_neg, ↓e_and, ↓e_or, ↓e_not, ↓e_ite, ↓e_chain, ↓e_ix, ↓e_isi, ↓e_meth, ↓e_sl, ↓e_lam, ↓e_lc, ↓es_cons, ↓es_nil, ↓o_no, ↓b_add, ↓b_sub, ↓b_subB, ↓b_addB, ↓b_mul, ↓b_div, ↓b_mod, ↓b_pow, ↓b_addT, ↓b_mulT, ↓c_lt, ↓c_le, ↓c_gt, ↓c_ge, ↓c_isB, ↓c_isNotB, ↓c_isN, ↓c_isNotN, ↓t_abs, ↓t_int, ↓t_intB, ↓t_len, ↓t_min, ↓t_max, ↓t_tupT, ↓t_lstT, ↓i_v, ↓i_tup, ↓i_lst, ↓i_call, ↓i_ix, ↓i_sl, ↓w_lcB, ↓ts_nil, ↓ts_cons, ↓t_all, ↓t_any, ↓t_tup, ↓wI_int, ↓wR_ok, ↓v_0, ↓v_1, ↓v_2, ↓v_3, ↓v_4, ↓v_5, ↓v_6, ↓v_7, ↓v_8, ↓v_9, ↓v_10, ↓v_11, ↓v_12, ↓v_13, ↓v_14, ↓v_15, ↓v_16, ↓v_17, ↓v_18, ↓v_19, ↓v_20, ↓v_21, ↓v_22, ↓v_23, ↓v_24, ↓v_25, ↓v_26, ↓v_27, ↓v_28, ↓v_29, ↓v_30, ↓v_31, ↓as_0, ↓as_1, ↓as_2, ↓as_3, ↓as_4, ↓as_5, ↓as_6, ↓as_7, ↓as_8, ↓as_9, ↓as_10, ↓as_11, ↓as_12, ↓as_13, ↓as_14, ↓as_15, ↓as_16, ↓as_17, ↓as_18, ↓as_19, ↓as_20, ↓as_21, ↓as_22, ↓as_23, ↓as_24, ↓as_25, ↓as_26, ↓as_27, ↓as_28, ↓as_29, ↓as_30, ↓as_31, ↓as_t, ↓as_n, ↓as_c, ↓x1_0, ↓x2_0, ↓x2_1, ↓x3_0, ↓x3_1, ↓x3_2, ↓x4_0, ↓x4_1, ↓x4_2, ↓x4_3, ↓x5_0, ↓x5_1, ↓x5_2, ↓x5_3, ↓x5_4, ↓gc_id, ↓gc_bl, ↓gc_bl2, ↓gc_bl3, ↓gc_i, ↓gc_i2, ↓gc_n, ↓gc_n2, ↓gc_ex, ↓gc_ex0, ↓gc_ex2, ↓ce_ii, ↓ce_bb, ↓ce_2, ↓ce_3, ↓cn_ii, ↓cn_bb, ↓cn_2, ↓cn_3, ↓pk_bl, ↓pk_int, ↓pk_tn, ↓pk_tc, ↓pk_non, ↓nb_bl, ↓nb_int, ↓yt_non, ↓yt_bl, ↓yt_int, ↓yt_str, ↓yt_tup, ↓wp_tup, List.length_cons, List.length_nil, lim, Nat.reduceAdd, Nat.reduceLeDiff, true_and, and_true, is_ii, is_ib, is_bi, is_bb, is_tt, is_lt, is_it, is_nt, is_st, is_ni, is_si, is_ti, is_li, Bool.not_true, Bool.not_false, Bool.false_eq_true, if_true, if_false, abs_eq, Int.cast_ofNat_Int, BEq.rfl, beq_iff_eq, Int.reduceBEq, Int.reduceLT, Int.reduceLE, Int.reduceNeg, Int.reduceEq, List.all_cons, List.all_nil, id, Bool.and_true, Bool.true_and, Bool.and_self, same_nil', oc_some, oc_none, bls, wBs_some, wipe, Option.map_some, List.set_cons_zero, List.set_cons_succ, decide_true, decide_false, ↓reduceIte, decide_eq_true_eq, Bool.not_eq_true', ↓p_0, ↓p_1, ↓p_2, ↓p_len, ↓p_eq, ↓p_ne, ↓p_ty, ↓p_items, ↓e_rv, ↓rv_2, mulOk_sm, ↓w_of _ _ e0]
    exact hI _ _ ⟨rfl, rfl⟩
  rintro _ c' ⟨rfl, h0⟩
  rw [h0]; clear h0 c'
  obtain ⟨a, b, l1, e1, ha, hb, hab, b1⟩ := segment_e 55 hB
  obtain ⟨x, y, l2, e2, hx, hy, hxy, b2⟩ := segment_e 55 b1
  obtain ⟨so, l3, e3, s1, s2, b3⟩ := take_e (T := T) 58 (m := 4) b2 (by decide) ⟨by decide⟩
  simp only [List.set_set] at e2 b2 e3 b3
  refine seq (fun ρ' c' => ρ' = [some (D.ref 0), some (D.ref 2), none, none, none, none, none, none, none, none, none, some (segD a b), some (segD x y), none, none] ∧ c' = C.set 2 (.lst l2)) (fun I hI => ?_) ?_
  · simp (decide := true) only [↓ss_cons, ↓ss_nil, ↓s_set, ↓s_ret, ↓s_retN, ↓s_expr, ↓s_ife, ↓s_raise, ↓s_cnt, ↓s_brk, ↓s_pass, ↓s_setX, ↓s_for, ↓s_foS, ↓e_k, ↓e_tup, ↓e_lst, ↓e_call, ↓e_blt, ↓e_cmp, ↓e_bin, ↓e_neg, ↓e_and, ↓e_or, ↓e_not, ↓e_ite, ↓e_chain, ↓e_ix, ↓e_isi, ↓e_meth, ↓e_sl, ↓e_lam, ↓e_lc, ↓es_cons, ↓es_nil, ↓o_no, ↓b_add, ↓b_sub, ↓b_subB, ↓b_addB, ↓b_mul, ↓b_div, ↓b_mod, ↓b_pow, ↓b_addT, ↓b_mulT, ↓c_lt, ↓c_le, ↓c_gt, ↓c_ge, ↓c_isB, ↓c_isNotB, ↓c_isN, ↓c_isNotN, ↓t_abs, ↓t_int, ↓t_intB, ↓t_len, ↓t_min, ↓t_max, ↓t_tupT, ↓t_lstT, ↓i_v, ↓i_tup, ↓i_lst, ↓i_call, ↓i_ix, ↓i_sl, ↓w_lcB, ↓ts_nil, ↓ts_cons, ↓t_all, ↓t_any, ↓t_tup, ↓wI_int, ↓wR_ok, ↓v_0, ↓v_1, ↓v_2, ↓v_3, ↓v_4, ↓v_5, ↓v_6, ↓v_7, ↓v_8, ↓v_9, ↓v_10, ↓v_11, ↓v_12, ↓v_13, ↓v_14, ↓v_15, ↓v_16, ↓v_17, ↓v_18, ↓v_19, ↓v_20, ↓v_21, ↓v_22, ↓v_23, ↓v_24, ↓v_25, ↓v_26, ↓v_27, ↓v_28, ↓v_29, ↓v_30, ↓v_31, ↓as_0, ↓as_1, ↓as_2, ↓as_3, ↓as_4, ↓as_5, ↓as_6, ↓as_7, ↓as_8, ↓as_9, ↓as_10, ↓as_11, ↓as_12, ↓as_13, ↓as_14, ↓as_15, ↓as_16, ↓as_17, ↓as_18, ↓as_19, ↓as_20, ↓as_21, ↓as_22, ↓as_23, ↓as_24, ↓as_25, ↓as_26, ↓as_27, ↓as_28, ↓as_29, ↓as_30, ↓as_31, ↓as_t, ↓as_n, ↓as_c, ↓x1_0, ↓x2_0, ↓x2_1, ↓x3_0, ↓x3_1, ↓x3_2, ↓x4_0, ↓x4_1, ↓x4_2, ↓x4_3, ↓x5_0, ↓x5_1, ↓x5_2, ↓x5_3, ↓x5_4, ↓gc_id, ↓gc_bl, ↓gc_bl2, ↓gc_bl3, ↓gc_i, ↓gc_i2, ↓gc_n, ↓gc_n2, ↓gc_ex, ↓gc_ex0, ↓gc_ex2, ↓ce_ii, ↓ce_bb, ↓ce_2, ↓ce_3, ↓cn_ii, ↓cn_bb, ↓cn_2, ↓cn_3, ↓pk_bl, ↓pk_int, ↓pk_tn, ↓pk_tc, ↓pk_non, ↓nb_bl, ↓nb_int, ↓yt_non, ↓yt_bl, ↓yt_int, ↓yt_str, ↓yt_tup, ↓wp_tup, List.length_cons, List.length_nil, lim, Nat.reduceAdd, Nat.reduceLeDiff, true_and, and_true, is_ii, is_ib, is_bi, is_bb, is_tt, is_lt, is_it, is_nt, is_st, is_ni, is_si, is_ti, is_li, Bool.not_true, Bool.not_false, Bool.false_eq_true, if_true, if_false, abs_eq, Int.cast_ofNat_Int, BEq.rfl, beq_iff_eq, Int.reduceBEq, Int.reduceLT, Int.reduceLE, Int.reduceNeg, Int.reduceEq, List.all_cons, List.all_nil, id, Bool.and_true, Bool.true_and, Bool.and_self, same_nil', oc_some, oc_none, bls, wBs_some, wipe, Option.map_some, List.set_cons_zero, List.set_cons_succ, decide_true, decide_false, ↓reduceIte, decide_eq_true_eq, Bool.not_eq_true', ↓p_0, ↓p_1, ↓p_2, ↓p_len, ↓p_eq, ↓p_ne, ↓p_ty, ↓p_items, ↓e_rv, ↓rv_2, mulOk_sm, ↓w_of _ _ e1, ↓w_of _ _ e2]
    exact hI _ _ ⟨rfl, rfl⟩
  rintro _ c' ⟨rfl, h0⟩
  rw [h0]; clear h0 c'
  refine seq (fun ρ' c' => ρ' = [some (D.ref 0), some (D.ref 2), some (D.int so), none, none, none, none, none, none, none, none, some (segD a b), some (segD x y), none, none] ∧ c' = C.set 2 (.lst l3)) (fun I hI => ?_) ?_
  · simp (decide := true) only [↓ss_cons, ↓ss_nil, ↓s_set, ↓s_ret, ↓s_retN, ↓s_expr, ↓s_ife, ↓s_raise, ↓s_cnt, ↓s_brk, ↓s_pass, ↓s_setX, ↓s_for, ↓s_foS, ↓e_k, ↓e_tup, ↓e_lst, ↓e_call, ↓e_blt, ↓e_cmp, ↓e_bin, ↓e_neg, ↓e_and, ↓e_or, ↓e_not, ↓e_ite, ↓e_chain, ↓e_ix, ↓e_isi, ↓e_meth, ↓e_sl, ↓e_lam, ↓e_lc, ↓es_cons, ↓es_nil, ↓o_no, ↓b_add, ↓b_sub, ↓b_subB, ↓b_addB, ↓b_mul, ↓b_div, ↓b_mod, ↓b_pow, ↓b_addT, ↓b_mulT, ↓c_lt, ↓c_le, ↓c_gt, ↓c_ge, ↓c_isB, ↓c_isNotB, ↓c_isN, ↓c_isNotN, ↓t_abs, ↓t_int, ↓t_intB, ↓t_len, ↓t_min, ↓t_max, ↓t_tupT, ↓t_lstT, ↓i_v, ↓i_tup, ↓i_lst, ↓i_call, ↓i_ix, ↓i_sl, ↓w_lcB, ↓ts_nil, ↓ts_cons, ↓t_all, ↓t_any, ↓t_tup, ↓wI_int, ↓wR_ok, ↓v_0, ↓v_1, ↓v_2, ↓v_3, ↓v_4, ↓v_5, ↓v_6, ↓v_7, ↓v_8, ↓v_9, ↓v_10, ↓v_11, ↓v_12, ↓v_13, ↓v_14, ↓v_15, ↓v_16, ↓v_17, ↓v_18, ↓v_19, ↓v_20, ↓v_21, ↓v_22, ↓v_23, ↓v_24, ↓v_25, ↓v_26, ↓v_27, ↓v_28, ↓v_29, ↓v_30, ↓v_31, ↓as_0, ↓as_1, ↓as_2, ↓as_3, ↓as_4, ↓as_5, ↓as_6, ↓as_7, ↓as_8, ↓as_9, ↓as_10, ↓as_11, ↓as_12, ↓as_13, ↓as_14, ↓as_15, ↓as_16, ↓as_17, ↓as_18, ↓as_19, ↓as_20, ↓as_21, ↓as_22, ↓as_23, ↓as_24, ↓as_25, ↓as_26, ↓as_27, ↓as_28, ↓as_29, ↓as_30, ↓as_31, ↓as_t, ↓as_n, ↓as_c, ↓x1_0, ↓x2_0, ↓x2_1, ↓x3_0, ↓x3_1, ↓x3_2, ↓x4_0, ↓x4_1, ↓x4_2, ↓x4_3, ↓x5_0, ↓x5_1, ↓x5_2, ↓x5_3, ↓x5_4, ↓gc_id, ↓gc_bl, ↓gc_bl2, ↓gc_bl3, ↓gc_i, ↓gc_i2, ↓gc_n, ↓gc_n2, ↓gc_ex, ↓gc_ex0, ↓gc_ex2, ↓ce_ii, ↓ce_bb, ↓ce_2, ↓ce_3, ↓cn_ii, ↓cn_bb, ↓cn_2, ↓cn_3, ↓pk_bl, ↓pk_int, ↓pk_tn, ↓pk_tc, ↓pk_non, ↓nb_bl, ↓nb_int, ↓yt_non, ↓yt_bl, ↓yt_int, ↓yt_str, ↓yt_tup, ↓wp_tup, List.length_cons, List.length_nil, lim, Nat.reduceAdd, Nat.reduceLeDiff, true_and, and_true, is_ii, is_ib, is_bi, is_bb, is_tt, is_lt, is_it, is_nt, is_st, is_ni, is_si, is_ti, is_li, Bool.not_true, Bool.not_false, Bool.false_eq_true, if_true, if_false, abs_eq, Int.cast_ofNat_Int, BEq.rfl, beq_iff_eq, Int.reduceBEq, Int.reduceLT, Int.reduceLE, Int.reduceNeg, Int.reduceEq, List.all_cons, List.all_nil, id, Bool.and_true, Bool.true_and, Bool.and_self, same_nil', oc_some, oc_none, bls, wBs_some, wipe, Option.map_some, List.set_cons_zero, List.set_cons_succ, decide_true, decide_false, ↓reduceIte, decide_eq_true_eq, Bool.not_eq_true', ↓p_0, ↓p_1, ↓p_2, ↓p_len, ↓p_eq, ↓p_ne, ↓p_ty, ↓p_items, ↓e_rv, ↓rv_2, mulOk_sm, ↓w_of _ _ e3]
    exact hI _ _ ⟨rfl, rfl⟩
  rintro _ c' ⟨rfl, h0⟩
  rw [h0]; clear h0 c'
  refine fst b3 ha hb hx hy hab hxy fun C' s3 s4 s5 s6 x y hC' hx hy hxy => ?_
  clear fst
  haveI := ha.ok (by decide)
  haveI := hx.ok (by decide)
  haveI := hy.ok (by decide)
  by_cases g1 : so = 1
  · have e5 : (so == 1) = true := by simpa using g1
    by_cases g2 : y = a
    · refine seq (fun ρ' c' => ρ' = [some (.ref 0), some (.ref 2), some (.int so), s3, s4, s5, s6, none, none, none, none, some (segD a b), some (segD x y), none, none] ∧ c' = C') (fun I hI => ?_) ?_
      · subst g2
        simp (decide := true) only [↓ss_cons, ↓ss_nil, ↓s_set, ↓s_ret, ↓s_retN, ↓s_expr, ↓s_ife, ↓s_raise, ↓s_cnt, ↓s_brk, ↓s_pass, ↓s_setX, ↓s_for, ↓s_foS, ↓e_k, ↓e_tup, ↓e_lst, ↓e_call, ↓e_blt, ↓e_cmp, ↓e_bin, ↓e_neg, ↓e_and, ↓e_or, ↓e_not, ↓e_ite, ↓e_chain, ↓e_ix, ↓e_isi, ↓e_meth, ↓e_sl, ↓e_lam, ↓e_lc, ↓es_cons, ↓es_nil, ↓o_no, ↓b_add, ↓b_sub, ↓b_subB, ↓b_addB, ↓b_mul, ↓b_div, ↓b_mod, ↓b_pow, ↓b_addT, ↓b_mulT, ↓c_lt, ↓c_le, ↓c_gt, ↓c_ge, ↓c_isB, ↓c_isNotB, ↓c_isN, ↓c_isNotN, ↓t_abs, ↓t_int, ↓t_intB, ↓t_len, ↓t_min, ↓t_max, ↓t_tupT, ↓t_lstT, ↓i_v, ↓i_tup, ↓i_lst, ↓i_call, ↓i_ix, ↓i_sl, ↓w_lcB, ↓ts_nil, ↓ts_cons, ↓t_all, ↓t_any, ↓t_tup, ↓wI_int, ↓wR_ok, ↓v_0, ↓v_1, ↓v_2, ↓v_3, ↓v_4, ↓v_5, ↓v_6, ↓v_7, ↓v_8, ↓v_9, ↓v_10, ↓v_11, ↓v_12, ↓v_13, ↓v_14, ↓v_15, ↓v_16, ↓v_17, ↓v_18, ↓v_19, ↓v_20, ↓v_21, ↓v_22, ↓v_23, ↓v_24, ↓v_25, ↓v_26, ↓v_27, ↓v_28, ↓v_29, ↓v_30, ↓v_31, ↓as_0, ↓as_1, ↓as_2, ↓as_3, ↓as_4, ↓as_5, ↓as_6, ↓as_7, ↓as_8, ↓as_9, ↓as_10, ↓as_11, ↓as_12, ↓as_13, ↓as_14, ↓as_15, ↓as_16, ↓as_17, ↓as_18, ↓as_19, ↓as_20, ↓as_21, ↓as_22, ↓as_23, ↓as_24, ↓as_25, ↓as_26, ↓as_27, ↓as_28, ↓as_29, ↓as_30, ↓as_31, ↓as_t, ↓as_n, ↓as_c, ↓x1_0, ↓x2_0, ↓x2_1, ↓x3_0, ↓x3_1, ↓x3_2, ↓x4_0, ↓x4_1, ↓x4_2, ↓x4_3, ↓x5_0, ↓x5_1, ↓x5_2, ↓x5_3, ↓x5_4, ↓gc_id, ↓gc_bl, ↓gc_bl2, ↓gc_bl3, ↓gc_i, ↓gc_i2, ↓gc_n, ↓gc_n2, ↓gc_ex, ↓gc_ex0, ↓gc_ex2, ↓ce_ii, ↓ce_bb, ↓ce_2, ↓ce_3, ↓cn_ii, ↓cn_bb, ↓cn_2, ↓cn_3, ↓pk_bl, ↓pk_int, ↓pk_tn, ↓pk_tc, ↓pk_non, ↓nb_bl, ↓nb_int, ↓yt_non, ↓yt_bl, ↓yt_int, ↓yt_str, ↓yt_tup, ↓wp_tup, List.length_cons, List.length_nil, lim, Nat.reduceAdd, Nat.reduceLeDiff, true_and, and_true, is_ii, is_ib, is_bi, is_bb, is_tt, is_lt, is_it, is_nt, is_st, is_ni, is_si, is_ti, is_li, Bool.not_true, Bool.not_false, Bool.false_eq_true, if_true, if_false, abs_eq, Int.cast_ofNat_Int, BEq.rfl, beq_iff_eq, Int.reduceBEq, Int.reduceLT, Int.reduceLE, Int.reduceNeg, Int.reduceEq, List.all_cons, List.all_nil, id, Bool.and_true, Bool.true_and, Bool.and_self, same_nil', oc_some, oc_none, bls, wBs_some, wipe, Option.map_some, List.set_cons_zero, List.set_cons_succ, decide_true, decide_false, ↓reduceIte, decide_eq_true_eq, Bool.not_eq_true', ↓p_0, ↓p_1, ↓p_2, ↓p_len, ↓p_eq, ↓p_ne, ↓p_ty, ↓p_items, ↓e_rv, ↓rv_2, mulOk_sm, e5]
        exact hI _ _ ⟨rfl, rfl⟩
      rintro _ c' ⟨rfl, h0⟩
      rw [h0]; clear h0 c'
      exact lst hC' (ha.mono (by decide)) (hb.mono (by decide)) hx hy hab hxy
    · refine seq (fun ρ' c' => ρ' = [some (.ref 0), some (.ref 2), some (.int so), s3, s4, s5, s6, none, none, none, none, some (segD a b), some (segD a y), none, none] ∧ c' = C') (fun I hI => ?_) ?_
      · simp (decide := true) only [↓ss_cons, ↓ss_nil, ↓s_set, ↓s_ret, ↓s_retN, ↓s_expr, ↓s_ife, ↓s_raise, ↓s_cnt, ↓s_brk, ↓s_pass, ↓s_setX, ↓s_for, ↓s_foS, ↓e_k, ↓e_tup, ↓e_lst, ↓e_call, ↓e_blt, ↓e_cmp, ↓e_bin, ↓e_neg, ↓e_and, ↓e_or, ↓e_not, ↓e_ite, ↓e_chain, ↓e_ix, ↓e_isi, ↓e_meth, ↓e_sl, ↓e_lam, ↓e_lc, ↓es_cons, ↓es_nil, ↓o_no, ↓b_add, ↓b_sub, ↓b_subB, ↓b_addB, ↓b_mul, ↓b_div, ↓b_mod, ↓b_pow, ↓b_addT, ↓b_mulT, ↓c_lt, ↓c_le, ↓c_gt, ↓c_ge, ↓c_isB, ↓c_isNotB, ↓c_isN, ↓c_isNotN, ↓t_abs, ↓t_int, ↓t_intB, ↓t_len, ↓t_min, ↓t_max, ↓t_tupT, ↓t_lstT, ↓i_v, ↓i_tup, ↓i_lst, ↓i_call, ↓i_ix, ↓i_sl, ↓w_lcB, ↓ts_nil, ↓ts_cons, ↓t_all, ↓t_any, ↓t_tup, ↓wI_int, ↓wR_ok, ↓v_0, ↓v_1, ↓v_2, ↓v_3, ↓v_4, ↓v_5, ↓v_6, ↓v_7, ↓v_8, ↓v_9, ↓v_10, ↓v_11, ↓v_12, ↓v_13, ↓v_14, ↓v_15, ↓v_16, ↓v_17, ↓v_18, ↓v_19, ↓v_20, ↓v_21, ↓v_22, ↓v_23, ↓v_24, ↓v_25, ↓v_26, ↓v_27, ↓v_28, ↓v_29, ↓v_30, ↓v_31, ↓as_0, ↓as_1, ↓as_2, ↓as_3, ↓as_4, ↓as_5, ↓as_6, ↓as_7, ↓as_8, ↓as_9, ↓as_10, ↓as_11, ↓as_12, ↓as_13, ↓as_14, ↓as_15, ↓as_16, ↓as_17, ↓as_18, ↓as_19, ↓as_20, ↓as_21, ↓as_22, ↓as_23, ↓as_24, ↓as_25, ↓as_26, ↓as_27, ↓as_28, ↓as_29, ↓as_30, ↓as_31, ↓as_t, ↓as_n, ↓as_c, ↓x1_0, ↓x2_0, ↓x2_1, ↓x3_0, ↓x3_1, ↓x3_2, ↓x4_0, ↓x4_1, ↓x4_2, ↓x4_3, ↓x5_0, ↓x5_1, ↓x5_2, ↓x5_3, ↓x5_4, ↓gc_id, ↓gc_bl, ↓gc_bl2, ↓gc_bl3, ↓gc_i, ↓gc_i2, ↓gc_n, ↓gc_n2, ↓gc_ex, ↓gc_ex0, ↓gc_ex2, ↓ce_ii, ↓ce_bb, ↓ce_2, ↓ce_3, ↓cn_ii, ↓cn_bb, ↓cn_2, ↓cn_3, ↓pk_bl, ↓pk_int, ↓pk_tn, ↓pk_tc, ↓pk_non, ↓nb_bl, ↓nb_int, ↓yt_non, ↓yt_bl, ↓yt_int, ↓yt_str, ↓yt_tup, ↓wp_tup, List.length_cons, List.length_nil, lim, Nat.reduceAdd, Nat.reduceLeDiff, true_and, and_true, is_ii, is_ib, is_bi, is_bb, is_tt, is_lt, is_it, is_nt, is_st, is_ni, is_si, is_ti, is_li, Bool.not_true, Bool.not_false, Bool.false_eq_true, if_true, if_false, abs_eq, Int.cast_ofNat_Int, BEq.rfl, beq_iff_eq, Int.reduceBEq, Int.reduceLT, Int.reduceLE, Int.reduceNeg, Int.reduceEq, List.all_cons, List.all_nil, id, Bool.and_true, Bool.true_and, Bool.and_self, same_nil', oc_some, oc_none, bls, wBs_some, wipe, Option.map_some, List.set_cons_zero, List.set_cons_succ, decide_true, decide_false, ↓reduceIte, decide_eq_true_eq, Bool.not_eq_true', ↓p_0, ↓p_1, ↓p_2, ↓p_len, ↓p_eq, ↓p_ne, ↓p_ty, ↓p_items, ↓e_rv, ↓rv_2, mulOk_sm, e5, g2]
        exact hI _ _ ⟨rfl, rfl⟩
      rintro _ c' ⟨rfl, h0⟩
      rw [h0]; clear h0 c'
      exact lst hC' (ha.mono (by decide)) (hb.mono (by decide)) (ha.mono (by decide)) hy hab (fun z => g2 z.symm)
  · have e5 : (so == 1) = false := by simpa using g1
    refine seq (fun ρ' c' => ρ' = [some (.ref 0), some (.ref 2), some (.int so), s3, s4, s5, s6, none, none, none, none, some (segD a b), some (segD x y), none, none] ∧ c' = C') (fun I hI => ?_) ?_
    · simp (decide := true) only [↓ss_cons, ↓ss_nil, ↓s_set, ↓s_ret, ↓s_retN, ↓s_expr, ↓s_ife, ↓s_raise, ↓s_cnt, ↓s_brk, ↓s_pass, ↓s_setX, ↓s_for, ↓s_foS, ↓e_k, ↓e_tup, ↓e_lst, ↓e_call, ↓e_blt, ↓e_cmp, ↓e_bin, ↓e_neg, ↓e_and, ↓e_or, ↓e_not, ↓e_ite, ↓e_chain, ↓e_ix, ↓e_isi, ↓e_meth, ↓e_sl, ↓e_lam, ↓e_lc, ↓es_cons, ↓es_nil, ↓o_no, ↓b_add, ↓b_sub, ↓b_subB, ↓b_addB, ↓b_mul, ↓b_div, ↓b_mod, ↓b_pow, ↓b_addT, ↓b_mulT, ↓c_lt, ↓c_le, ↓c_gt, ↓c_ge, ↓c_isB, ↓c_isNotB, ↓c_isN, ↓c_isNotN, ↓t_abs, ↓t_int, ↓t_intB, ↓t_len, ↓t_min, ↓t_max, ↓t_tupT, ↓t_lstT, ↓i_v, ↓i_tup, ↓i_lst, ↓i_call, ↓i_ix, ↓i_sl, ↓w_lcB, ↓ts_nil, ↓ts_cons, ↓t_all, ↓t_any, ↓t_tup, ↓wI_int, ↓wR_ok, ↓v_0, ↓v_1, ↓v_2, ↓v_3, ↓v_4, ↓v_5, ↓v_6, ↓v_7, ↓v_8, ↓v_9, ↓v_10, ↓v_11, ↓v_12, ↓v_13, ↓v_14, ↓v_15, ↓v_16, ↓v_17, ↓v_18, ↓v_19, ↓v_20, ↓v_21, ↓v_22, ↓v_23, ↓v_24, ↓v_25, ↓v_26, ↓v_27, ↓v_28, ↓v_29, ↓v_30, ↓v_31, ↓as_0, ↓as_1, ↓as_2, ↓as_3, ↓as_4, ↓as_5, ↓as_6, ↓as_7, ↓as_8, ↓as_9, ↓as_10, ↓as_11, ↓as_12, ↓as_13, ↓as_14, ↓as_15, ↓as_16, ↓as_17, ↓as_18, ↓as_19, ↓as_20, ↓as_21, ↓as_22, ↓as_23, ↓as_24, ↓as_25, ↓as_26, ↓as_27, ↓as_28, ↓as_29, ↓as_30, ↓as_31, ↓as_t, ↓as_n, ↓as_c, ↓x1_0, ↓x2_0, ↓x2_1, ↓x3_0, ↓x3_1, ↓x3_2, ↓x4_0, ↓x4_1, ↓x4_2, ↓x4_3, ↓x5_0, ↓x5_1, ↓x5_2, ↓x5_3, ↓x5_4, ↓gc_id, ↓gc_bl, ↓gc_bl2, ↓gc_bl3, ↓gc_i, ↓gc_i2, ↓gc_n, ↓gc_n2, ↓gc_ex, ↓gc_ex0, ↓gc_ex2, ↓ce_ii, ↓ce_bb, ↓ce_2, ↓ce_3, ↓cn_ii, ↓cn_bb, ↓cn_2, ↓cn_3, ↓pk_bl, ↓pk_int, ↓pk_tn, ↓pk_tc, ↓pk_non, ↓nb_bl, ↓nb_int, ↓yt_non, ↓yt_bl, ↓yt_int, ↓yt_str, ↓yt_tup, ↓wp_tup, List.length_cons, List.length_nil, lim, Nat.reduceAdd, Nat.reduceLeDiff, true_and, and_true, is_ii, is_ib, is_bi, is_bb, is_tt, is_lt, is_it, is_nt, is_st, is_ni, is_si, is_ti, is_li, Bool.not_true, Bool.not_false, Bool.false_eq_true, if_true, if_false, abs_eq, Int.cast_ofNat_Int, BEq.rfl, beq_iff_eq, Int.reduceBEq, Int.reduceLT, Int.reduceLE, Int.reduceNeg, Int.reduceEq, List.all_cons, List.all_nil, id, Bool.and_true, Bool.true_and, Bool.and_self, same_nil', oc_some, oc_none, bls, wBs_some, wipe, Option.map_some, List.set_cons_zero, List.set_cons_succ, decide_true, decide_false, ↓reduceIte, decide_eq_true_eq, Bool.not_eq_true', ↓p_0, ↓p_1, ↓p_2, ↓p_len, ↓p_eq, ↓p_ne, ↓p_ty, ↓p_items, ↓e_rv, ↓rv_2, mulOk_sm, e5]
      exact hI _ _ ⟨rfl, rfl⟩
    rintro _ c' ⟨rfl, h0⟩
    rw [h0]; clear h0 c'
    exact lst hC' (ha.mono (by decide)) (hb.mono (by decide)) hx hy hab hxy
end K03
end

section
open PySem PySem.W PyProof.Rows
set_option Elab.async false
set_option maxRecDepth 100000 in
set_option maxHeartbeats 0 in
theorem PySem.Challenge.cw_straightedge_k03_how_segments_cross_holds : PySem.Challenge.rw_straightedge_k03_how_segments_cross.Holds := by
  w_on; o_law; k_head; (case hw => w_witness2)
  k_fill
  refine G.law_end (k := 60) K03.S K03.T rfl (by decide) rfl rfl ⟨rfl, by decide, by decide⟩ (fun w h Y => PySem.W.km_in_of Y) (fun w h Y p hp => ?_) (fun P => ?_) ?_ (fun ns hl _ s hs => K03.law_pure ns hl s hs)
  · exact PySem.W.km_tabs_of Y _ (by revert p hp; decide)
  · kernel_rfl
  · decide
end
