import PyProof.Rows.All
import Wide.All
import OpenK.AllK
import Wide.FinOn
import HandS.ForMost
import HandS.IsInst
import HandS.Conv
import HandS.Defaults
import HandS.HeadHook2
import HandS.TupAny
import HandS.Style
import HandS.HeadEnd
import HandS.MakeKw
import HandS.Dict
import HandS.Exc
import HandS.HeadHook4
import HandS.Head0
import HandS.Head1
import HandS.Head2
import KE.KStateDown
import Lean
import PySem.Challenge.RW_hasprograms_k11_any_value_as_kind
set_option Elab.async false
set_option linter.all false
set_option maxRecDepth 100000
/-! mini: a small language of values, a heap of mutable objects, codes for the constructs of Python that the laws use. Pure part. -/
namespace Mini
open PySem

/-! ### values, objects, heap -/
inductive MV where
  | non | bl (b : Bool) | int (i : Int) | str (x : Str) | rep (d : PyData) | tup (l : List MV) | ref (a : Nat) | glo (x : Str)
  deriving Inhabited

inductive MO where
  | lst (l : List MV)
  | frz (l : List MV)
  | hole
  | dct (l : List (MV × MV))
  deriving Inhabited

inductive Tr where
  | lf | nd (v : Option MO) (l r : Tr)
def Tr.get : Tr → Nat → Option MO
  | .lf, _ => none
  | .nd v l r, n => match n with
    | 0 => v
    | k + 1 => bif k % 2 == 0 then l.get (k / 2) else r.get (k / 2)
def Tr.put (o : MO) : Nat → Tr → Nat → Tr
  | 0, t, _ => t
  | f + 1, .lf, n => match n with
    | 0 => .nd (some o) .lf .lf
    | k + 1 => bif k % 2 == 0 then .nd none (Tr.put o f .lf (k / 2)) .lf else .nd none .lf (Tr.put o f .lf (k / 2))
  | f + 1, .nd v l r, n => match n with
    | 0 => .nd (some o) l r
    | k + 1 => bif k % 2 == 0 then .nd v (Tr.put o f l (k / 2)) r else .nd v l (Tr.put o f r (k / 2))

structure M where
  n : Nat
  t : Tr
def M.get (m : M) (a : Nat) : Option MO := bif a.blt m.n then m.t.get a else none
def M.put (m : M) (a : Nat) (o : MO) : M := ⟨m.n, m.t.put o (a + 1) a⟩
def M.new (m : M) (o : MO) : M := ⟨m.n + 1, m.t.put o (m.n + 1) m.n⟩

theorem par (k : Nat) : (k % 2 = 0 ∧ (k % 2 == 0) = true) ∨ (k % 2 = 1 ∧ (k % 2 == 0) = false) := by
  rcases Nat.mod_two_eq_zero_or_one k with h | h
  · exact .inl ⟨h, by rw [h]; rfl⟩
  · exact .inr ⟨h, by rw [h]; rfl⟩
theorem Tr.get_put (o : MO) : ∀ (f : Nat) (t : Tr) (a b : Nat), a + 1 < 2 ^ f → (t.put o f a).get b = if b = a then some o else t.get b
  | 0, t, a, b, h => by simp at h
  | f + 1, .lf, 0, b, _ => by
    cases b with
    | zero => simp [Tr.put, Tr.get]
    | succ k => simp [Tr.put, Tr.get]
  | f + 1, .nd v l r, 0, b, _ => by
    cases b with
    | zero => simp [Tr.put, Tr.get]
    | succ k => simp [Tr.put, Tr.get]
  | f + 1, .lf, a + 1, b, h => by
    have h2 : a / 2 + 1 < 2 ^ f := by rw [Nat.pow_succ] at h; omega
    rcases par a with ⟨e, e'⟩ | ⟨e, e'⟩
    · cases b with
      | zero => simp only [Tr.put, Tr.get, e', cond_true]; simp
      | succ k =>
        rcases par k with ⟨e2, e2'⟩ | ⟨e2, e2'⟩
        · simp only [Tr.put, Tr.get, e', e2', cond_true, Tr.get_put o f .lf (a / 2) (k / 2) h2]
          by_cases q : k = a
          · simp [q]
          · have : ¬ k / 2 = a / 2 := by omega
            simp [q, this]
        · have q : ¬ k = a := by omega
          simp only [Tr.put, Tr.get, e', e2', cond_true, cond_false]
          simp [q]
    · cases b with
      | zero => simp only [Tr.put, Tr.get, e', cond_false]; simp
      | succ k =>
        rcases par k with ⟨e2, e2'⟩ | ⟨e2, e2'⟩
        · have q : ¬ k = a := by omega
          simp only [Tr.put, Tr.get, e', e2', cond_true, cond_false]
          simp [q]
        · simp only [Tr.put, Tr.get, e', e2', cond_false, Tr.get_put o f .lf (a / 2) (k / 2) h2]
          by_cases q : k = a
          · simp [q]
          · have : ¬ k / 2 = a / 2 := by omega
            simp [q, this]
  | f + 1, .nd v l r, a + 1, b, h => by
    have h2 : a / 2 + 1 < 2 ^ f := by rw [Nat.pow_succ] at h; omega
    rcases par a with ⟨e, e'⟩ | ⟨e, e'⟩
    · cases b with
      | zero => simp only [Tr.put, Tr.get, e', cond_true]; simp
      | succ k =>
        rcases par k with ⟨e2, e2'⟩ | ⟨e2, e2'⟩
        · simp only [Tr.put, Tr.get, e', e2', cond_true, Tr.get_put o f l (a / 2) (k / 2) h2]
          by_cases q : k = a
          · simp [q]
          · have : ¬ k / 2 = a / 2 := by omega
            simp [q, this]
        · have q : ¬ k = a := by omega
          simp only [Tr.put, Tr.get, e', e2', cond_true, cond_false]
          simp [q]
    · cases b with
      | zero => simp only [Tr.put, Tr.get, e', cond_false]; simp
      | succ k =>
        rcases par k with ⟨e2, e2'⟩ | ⟨e2, e2'⟩
        · have q : ¬ k = a := by omega
          simp only [Tr.put, Tr.get, e', e2', cond_true, cond_false]
          simp [q]
        · simp only [Tr.put, Tr.get, e', e2', cond_false, Tr.get_put o f r (a / 2) (k / 2) h2]
          by_cases q : k = a
          · simp [q]
          · have : ¬ k / 2 = a / 2 := by omega
            simp [q, this]

theorem blt_iff {a b : Nat} : a.blt b = decide (a < b) := by
  unfold Nat.blt
  by_cases h : a < b
  · rw [decide_eq_true h]; exact Nat.ble_eq.mpr h
  · rw [decide_eq_false h]; exact Bool.eq_false_iff.mpr fun z => h (Nat.ble_eq.mp z)
theorem M.get_put {m : M} {a b : Nat} {o : MO} (ha : a < m.n) : (m.put a o).get b = if b = a then some o else m.get b := by
  have h2 : a + 1 < 2 ^ (a + 1) := Nat.lt_two_pow_self
  unfold M.get M.put
  simp only [Tr.get_put o (a + 1) m.t a b h2, blt_iff]
  by_cases e : b = a
  · subst e; simp [ha]
  · simp [e]
theorem M.get_new {m : M} {b : Nat} {o : MO} : (m.new o).get b = if b = m.n then some o else m.get b := by
  have h2 : m.n + 1 < 2 ^ (m.n + 1) := Nat.lt_two_pow_self
  unfold M.get M.new
  simp only [Tr.get_put o (m.n + 1) m.t m.n b h2, blt_iff]
  by_cases e : b = m.n
  · subst e; simp
  · by_cases l : b < m.n
    · have : b < m.n + 1 := by omega
      simp [e, l, this]
    · have : ¬ b < m.n + 1 := by omega
      simp [e, l, this]
theorem M.get_lt {m : M} {a : Nat} {o : MO} (h : m.get a = some o) : a < m.n := by
  unfold M.get at h
  rw [blt_iff] at h
  by_cases l : a < m.n
  · exact l
  · simp [l] at h

/-! ### results -/
/-- an exception: its class by name, its fields -/
structure MX where
  c : Str
  fs : List (Str × MV)
inductive Rs (α : Type) where
  | ok (a : α) (m : M)
  | exc (x : MX) (m : M)
  | bad
@[inline] def Rs.bind {α β : Type} (r : Rs α) (f : α → M → Rs β) : Rs β := match r with
  | .ok a m => f a m
  | .exc x m => .exc x m
  | .bad => .bad
def Rs.of {α : Type} (o : Option α) (m : M) : Rs α := match o with
  | some a => .ok a m
  | none => .bad

abbrev S := List (Option MV)
abbrev CE := S → M → Rs MV
abbrev CT := S → M → Rs Bool
abbrev CA := S → M → Rs (List MV)
inductive Fl where
  | nx (σ : S) | rt (v : MV) | bk (σ : S) | ct (σ : S)
abbrev CS := S → M → Rs Fl
abbrev CG := MV → S → M → Rs S
/-- the defs, by place -/
abbrev FT := Nat → List MV → M → Rs MV

def nth {α : Type} : List (Option α) → Nat → Option α
  | [], _ => none
  | x :: _, 0 => x
  | _ :: r, i + 1 => nth r i
def at? {α : Type} : List α → Nat → Option α
  | [], _ => none
  | x :: _, 0 => some x
  | _ :: r, i + 1 => at? r i
def setN {α : Type} (v : α) : List α → Nat → List α
  | [], _ => []
  | _ :: r, 0 => v :: r
  | x :: r, i + 1 => x :: setN v r i
theorem at?_eq {α : Type} : ∀ (l : List α) (i : Nat), at? l i = l[i]?
  | [], _ => by simp [at?]
  | _ :: _, 0 => by simp [at?]
  | _ :: r, i + 1 => by simp [at?, at?_eq r i]
theorem nth_eq {α : Type} : ∀ (l : List (Option α)) (i : Nat), nth l i = (l[i]?).join
  | [], _ => by simp [nth]
  | _ :: _, 0 => by simp [nth]
  | _ :: r, i + 1 => by simp [nth, nth_eq r i]
theorem setN_eq {α : Type} (v : α) : ∀ (l : List α) (i : Nat), setN v l i = l.set i v
  | [], _ => by simp [setN]
  | _ :: _, 0 => by simp [setN]
  | _ :: r, i + 1 => by simp [setN, setN_eq v r i]

/-! ### texts -/
def natsEq : List Nat → List Nat → Bool
  | [], [] => true
  | x :: xs, y :: ys => x.beq y && natsEq xs ys
  | _, _ => false
theorem natsEq_iff : ∀ {xs ys : List Nat}, natsEq xs ys = true ↔ xs = ys
  | [], [] => by simp [natsEq]
  | [], _ :: _ => by simp [natsEq]
  | _ :: _, [] => by simp [natsEq]
  | x :: xs, y :: ys => by simp [natsEq, natsEq_iff (xs := xs)]
def strEq (x y : Str) : Bool := natsEq x.cps.toList y.cps.toList
theorem strEq_iff {x y : Str} : strEq x y = true ↔ x = y := by
  unfold strEq
  rw [natsEq_iff]
  obtain ⟨⟨l⟩⟩ := x
  obtain ⟨⟨k⟩⟩ := y
  simp
theorem strEq_dec {x y : Str} : strEq x y = decide (x = y) := by
  rw [Bool.eq_iff_iff, strEq_iff]; simp

/-! ### plain data -/
def mapO {α β : Type} (g : α → Option β) : List α → Option (List β)
  | [] => some []
  | x :: xs => match g x with
    | some y => (match mapO g xs with
      | some ys => some (y :: ys)
      | none => none)
    | none => none
def toD (m : M) : Nat → MV → Option PyData
  | 0, _ => none
  | f + 1, v => match v with
    | .non => some .none
    | .bl b => some (.bool b)
    | .int i => some (.int i)
    | .str x => some (.str x)
    | .rep d => some (.str d.shown)
    | .tup l => (match mapO (toD m f) l with
      | some ds => some (.tuple ds)
      | none => none)
    | .ref a => (match m.get a with
      | some (.lst l) => (match mapO (toD m f) l with
        | some ds => some (.list ds)
        | none => none)
      | _ => none)
    | .glo _ => none
def deepest : Nat := 70

mutual
def datEq : PyData → PyData → Bool
  | .none, .none => true
  | .bool a, .bool b => a == b
  | .int i, .int j => decide (i = j)
  | .str x, .str y => strEq x y
  | .list xs, .list ys => datsEq xs ys
  | .tuple xs, .tuple ys => datsEq xs ys
  | .dict [], .dict [] => true
  | _, _ => false
def datsEq : List PyData → List PyData → Bool
  | [], [] => true
  | x :: xs, y :: ys => datEq x y && datsEq xs ys
  | _, _ => false
end
mutual
theorem datEq_eq : ∀ {d e : PyData}, datEq d e = true → d = e
  | .none, e, h => by cases e <;> simp [datEq] at h ⊢
  | .bool a, e, h => by cases e <;> simp [datEq] at h ⊢; exact h
  | .int a, e, h => by cases e <;> simp [datEq] at h ⊢; exact h
  | .str a, e, h => by cases e <;> simp [datEq, strEq_iff] at h ⊢; exact h
  | .list xs, e, h => by
    cases e with
    | list ys => exact congrArg PyData.list (datsEq_eq (d := xs) (e := ys) (by simpa [datEq] using h))
    | _ => simp [datEq] at h
  | .tuple xs, e, h => by
    cases e with
    | tuple ys => exact congrArg PyData.tuple (datsEq_eq (d := xs) (e := ys) (by simpa [datEq] using h))
    | _ => simp [datEq] at h
  | .dict [], e, h => by
    cases e with
    | dict k => cases k with
      | nil => rfl
      | cons _ _ => simp [datEq] at h
    | _ => simp [datEq] at h
  | .dict (_ :: _), e, h => by cases e <;> simp [datEq] at h
theorem datsEq_eq : ∀ {d e : List PyData}, datsEq d e = true → d = e
  | [], [], _ => rfl
  | [], _ :: _, h => by simp [datsEq] at h
  | _ :: _, [], h => by simp [datsEq] at h
  | x :: xs, y :: ys, h => by
    rw [datsEq, Bool.and_eq_true] at h
    rw [datEq_eq h.1, datsEq_eq h.2]
end

def strOf : MV → Option Str
  | .str x => some x
  | .rep d => some d.shown
  | _ => none
/-- == of two values, where it is told -/
def eqM (m : M) (a b : MV) : Option Bool := match a, b with
  | .int i, .int j => some (decide (i = j))
  | .str x, .str y => some (strEq x y)
  | .rep d, .rep e => some (bif datEq d e then true else strEq d.shown e.shown)
  | .non, .non => some true
  | .non, .int _ => some false
  | .int _, .non => some false
  | .non, .bl _ => some false
  | .bl _, .non => some false
  | .non, .str _ => some false
  | .str _, .non => some false
  | .bl a, .bl b => some (a == b)
  | .int _, .str _ => some false
  | .str _, .int _ => some false
  | .bl _, .str _ => some false
  | .str _, .bl _ => some false
  | _, _ => match toD m deepest a, toD m deepest b with
    | some d, some e => bif SeqAt.shaped d && SeqAt.shaped e then some (PyData.eqv d e) else none
    | _, _ => none

/-! ### items -/
/-- the items of a list or a tuple -/
def seqM (m : M) : MV → Option (List MV)
  | .tup l => some l
  | .ref a => match m.get a with
    | some (.lst l) => some l
    | some (.frz l) => some l
    | _ => none
  | _ => none
/-- the place that an index means -/
def ixM (n : Nat) : Int → Option Nat
  | .ofNat k => bif k.blt n then some k else none
  | .negSucc k => bif k.blt n then some (n - (k + 1)) else none
theorem ixM_eq (n : Nat) (i : Int) : ixM n i = L2.ixN n i := by
  unfold L2.ixN
  cases i with
  | ofNat k =>
    show (bif k.blt n then some k else none) = _
    rw [blt_iff]
    have h0 : (0 : Int) ≤ Int.ofNat k := Int.natCast_nonneg k
    rw [if_pos h0]
    by_cases h : k < n
    · have h2 : Int.ofNat k < (n : Int) := by show (k : Int) < n; omega
      rw [if_pos h2]; simp [h]
    · have h2 : ¬ Int.ofNat k < (n : Int) := by show ¬ (k : Int) < n; omega
      rw [if_neg h2]; simp [h]
  | negSucc k =>
    show (bif k.blt n then some (n - (k + 1)) else none) = _
    rw [blt_iff]
    have h0 : ¬ (0 : Int) ≤ Int.negSucc k := by omega
    rw [if_neg h0]
    by_cases h : k < n
    · have h2 : -(n : Int) ≤ Int.negSucc k := by omega
      rw [if_pos h2]; simp [h]; omega
    · have h2 : ¬ -(n : Int) ≤ Int.negSucc k := by omega
      rw [if_neg h2]; simp [h]

/-! ### codes of expressions -/
def cLit (v : MV) : CE := fun _ m => .ok v m
def cVar (i : Nat) : CE := fun σ m => .of (nth σ i) m
def cBin (f : MV → MV → M → Rs MV) (a b : CE) : CE := fun σ m => (a σ m).bind fun x m1 => (b σ m1).bind fun y m2 => f x y m2
def cUn (f : MV → M → Rs MV) (a : CE) : CE := fun σ m => (a σ m).bind fun x m1 => f x m1
def aNil : CA := fun _ m => .ok [] m
def aCons (a : CE) (r : CA) : CA := fun σ m => (a σ m).bind fun x m1 => (r σ m1).bind fun xs m2 => .ok (x :: xs) m2
def fits (n : Nat) : Bool := n.ble 16777216
def cTup (a : CA) : CE := fun σ m => (a σ m).bind fun xs m1 => bif fits xs.length then .ok (.tup xs) m1 else .bad
/-- a new object -/
def newO (m : M) (o : MO) : Rs MV := .ok (.ref m.n) (m.new o)
def cLst (a : CA) : CE := fun σ m => (a σ m).bind fun xs m1 => bif fits xs.length then newO m1 (.lst xs) else .bad
def cFn (F : FT) (i : Nat) (a : CA) : CE := fun σ m => (a σ m).bind fun xs m1 => F i xs m1
def cAp (f : List MV → M → Rs MV) (a : CA) : CE := fun σ m => (a σ m).bind fun xs m1 => f xs m1
def cIf (t : CT) (a b : CE) : CE := fun σ m => (t σ m).bind fun c m1 => bif c then a σ m1 else b σ m1
/-- and, or of bools, as values -/
def cAnd (a b : CE) : CE := fun σ m => (a σ m).bind fun x m1 => match x with
  | .bl c => bif c then b σ m1 else .ok (.bl false) m1
  | _ => .bad
def cOr (a b : CE) : CE := fun σ m => (a σ m).bind fun x m1 => match x with
  | .bl c => bif c then .ok (.bl true) m1 else b σ m1
  | _ => .bad
def cNot (a : CE) : CE := fun σ m => (a σ m).bind fun x m1 => match x with
  | .bl c => .ok (.bl (!c)) m1
  | _ => .bad
/-- a op b op' c -/
def cChain (f g : MV → MV → M → Rs MV) (a b c : CE) : CE := fun σ m => (a σ m).bind fun x m1 => (b σ m1).bind fun y m2 => (f x y m2).bind fun z m3 => match z with
  | .bl k => bif k then (c σ m3).bind fun w m4 => g y w m4 else .ok (.bl false) m3
  | _ => .bad
/-! tests -/
def tVal (a : CE) : CT := fun σ m => (a σ m).bind fun x m1 => match x with
  | .bl c => .ok c m1
  | _ => .bad
def truM (m : M) : MV → Option Bool
  | .non => some false
  | .bl b => some b
  | .int i => some (i != 0)
  | v => match seqM m v with
    | some l => some (!l.isEmpty)
    | none => none
def tTru (a : CE) : CT := fun σ m => (a σ m).bind fun x m1 => .of (truM m1 x) m1
def tAndC (a b : CT) : CT := fun σ m => (a σ m).bind fun c m1 => bif c then b σ m1 else .ok false m1
def tOrC (a b : CT) : CT := fun σ m => (a σ m).bind fun c m1 => bif c then .ok true m1 else b σ m1
def tNotC (a : CT) : CT := fun σ m => (a σ m).bind fun c m1 => .ok (!c) m1

/-! ### operators by values -/
abbrev Op2 := MV → MV → M → Rs MV
def small64 (i : Int) : Bool := i.natAbs.blt 18446744073709551616
def oAdd : Op2 := fun x y m => match x, y with
  | .int i, .int j => .ok (.int (i + j)) m
  | .str a, .str b => bif fits (a.length + b.length) then .ok (.str (a ++ b)) m else .bad
  | .tup l, .tup k => bif fits (l.length + k.length) then .ok (.tup (l ++ k)) m else .bad
  | .ref a, .ref b => match m.get a, m.get b with
    | some (.lst l), some (.lst k) => bif fits (l.length + k.length) then newO m (.lst (l ++ k)) else .bad
    | _, _ => .bad
  | _, _ => .bad
def oSub : Op2 := fun x y m => match x, y with
  | .int i, .int j => .ok (.int (i - j)) m
  | _, _ => .bad
def oMul : Op2 := fun x y m => match x, y with
  | .int i, .int j => bif small64 i || small64 j then .ok (.int (i * j)) m else .bad
  | .ref a, .int k => match m.get a with
    | some (.lst l) => bif fits (l.length * k.toNat) && small64 (k + k) then newO m (.lst (List.replicate k.toNat l).flatten) else .bad
    | _ => .bad
  | _, _ => .bad
def posInt : Int → Bool
  | .ofNat (_ + 1) => true
  | _ => false
def oDiv : Op2 := fun x y m => match x, y with
  | .int i, .int j => bif posInt j && j.toNat.blt 1073741824 then .ok (.int (i / j)) m else .bad
  | _, _ => .bad
def oMod : Op2 := fun x y m => match x, y with
  | .int i, .int j => bif posInt j then .ok (.int (i % j)) m else .bad
  | _, _ => .bad
def oPow : Op2 := fun x y m => match x, y with
  | .int i, .int (.ofNat j) => bif j.ble 1000000 && small64 i then .ok (.int (i ^ j)) m else .bad
  | _, _ => .bad
def uNeg : MV → M → Rs MV := fun x m => match x with
  | .int i => .ok (.int (-i)) m
  | _ => .bad
def oCmpI (p : Int → Int → Bool) : Op2 := fun x y m => match x, y with
  | .int i, .int j => .ok (.bl (p i j)) m
  | _, _ => .bad
def oLt : Op2 := oCmpI fun i j => decide (i < j)
def oLe : Op2 := oCmpI fun i j => decide (i ≤ j)
def oGt : Op2 := oCmpI fun i j => decide (j < i)
def oGe : Op2 := oCmpI fun i j => decide (j ≤ i)
def oEq : Op2 := fun x y m => match eqM m x y with
  | some b => .ok (.bl b) m
  | none => .bad
def oNe : Op2 := fun x y m => match eqM m x y with
  | some b => .ok (.bl (!b)) m
  | none => .bad
def isNon : MV → Bool
  | .non => true
  | _ => false
/-- is None, is not None: the right side None -/
def oIsN : Op2 := fun x y m => match y with
  | .non => .ok (.bl (isNon x)) m
  | _ => .bad
def oNotN : Op2 := fun x y m => match y with
  | .non => .ok (.bl (!isNon x)) m
  | _ => .bad
/-- x in flat items: text or int alone against such -/
def eqFlat : MV → MV → Option Bool
  | .non, .non => some true
  | .non, .bl _ => some false
  | .non, .int _ => some false
  | .non, .str _ => some false
  | .bl _, .non => some false
  | .int _, .non => some false
  | .str _, .non => some false
  | .bl a, .bl b => some (a == b)
  | .int a, .int b => some (decide (a = b))
  | .bl a, .int b => some (decide ((if a then 1 else 0) = b))
  | .int a, .bl b => some (decide (a = (if b then 1 else 0)))
  | .str a, .str b => some (strEq a b)
  | .int _, .str _ => some false
  | .str _, .int _ => some false
  | .bl _, .str _ => some false
  | .str _, .bl _ => some false
  | _, _ => none
def isFlat : MV → Bool
  | .non => true
  | .bl _ => true
  | .int _ => true
  | .str _ => true
  | _ => false
def inFlat (x : MV) : List MV → Option Bool
  | [] => some false
  | y :: ys => match eqFlat y x, inFlat x ys with
    | some a, some b => some (a || b)
    | _, _ => none
def oIn (neg : Bool) : Op2 := fun x y m => match seqM m y with
  | some l => bif isFlat x && l.all isFlat then (match inFlat x l with
    | some b => .ok (.bl (bif neg then !b else b)) m
    | none => .bad) else .bad
  | none => .bad
def oIx : Op2 := fun x y m => match y with
  | .int i => (match x with
    | .str z => (match ixM z.length i with
      | some k => (match at? z.cps.toList k with
        | some c => bif fits z.length then .ok (.str ⟨#[c]⟩) m else .bad
        | none => .bad)
      | none => .bad)
    | x => (match seqM m x with
      | some l => (match ixM l.length i with
        | some k => .of (at? l k) m
        | none => .bad)
      | none => .bad))
  | _ => .bad
/-! slices -/
abbrev CO := S → M → Rs (Option Int)
def oNone : CO := fun _ m => .ok none m
def oPart (a : CE) : CO := fun σ m => (a σ m).bind fun x m1 => match x with
  | .int i => .ok (some i) m1
  | _ => .bad
def cutM (l : List MV) (lo hi : Option Int) : List MV := (l.drop (HT.sIx l.length 0 lo)).take (HT.sIx l.length l.length hi - HT.sIx l.length 0 lo)
def slM (x : MV) (lo hi : Option Int) (m : M) : Rs MV := match x with
  | .str z => bif fits z.length then .ok (.str (L2.cutS z lo hi)) m else .bad
  | .tup l => .ok (.tup (cutM l lo hi)) m
  | .ref a => match m.get a with
    | some (.lst l) => newO m (.lst (cutM l lo hi))
    | _ => .bad
  | _ => .bad
def cSl (a : CE) (lo hi : CO) : CE := fun σ m => (a σ m).bind fun x m1 => (lo σ m1).bind fun l m2 => (hi σ m2).bind fun h m3 => slM x l h m3

/-! ### built-in functions, by values -/
abbrev Ap := List MV → M → Rs MV
def bLen : Ap := fun xs m => match xs with
  | [.str z] => bif fits z.length then .ok (.int z.length) m else .bad
  | [x] => match seqM m x with
    | some l => .ok (.int l.length) m
    | none => .bad
  | _ => .bad
def bAbs : Ap := fun xs m => match xs with
  | [.int i] => .ok (.int (if i < 0 then -i else i)) m
  | _ => .bad
def bMax2 : Ap := fun xs m => match xs with
  | [.int i, .int j] => .ok (.int (if j > i then j else i)) m
  | _ => .bad
def bMin2 : Ap := fun xs m => match xs with
  | [.int i, .int j] => .ok (.int (if j < i then j else i)) m
  | _ => .bad
def bInt : Ap := fun xs m => match xs with
  | [.int i] => .ok (.int i) m
  | [.bl b] => .ok (.int (bif b then 1 else 0)) m
  | _ => .bad
def bDivmod : Ap := fun xs m => match xs with
  | [.int i, .int j] => bif posInt j && j.toNat.blt 1073741824 then .ok (.tup [.int (i / j), .int (i % j)]) m else .bad
  | _ => .bad
def intsOf : List MV → Option (List Int)
  | [] => some []
  | .int i :: r => match intsOf r with
    | some l => some (i :: l)
    | none => none
  | _ :: _ => none
def blsOf : List MV → Option (List Bool)
  | [] => some []
  | .bl i :: r => match blsOf r with
    | some l => some (i :: l)
    | none => none
  | _ :: _ => none
def lstM (m : M) : MV → Option (List MV)
  | .ref a => match m.get a with
    | some (.lst l) => some l
    | _ => none
  | _ => none
def sumL : List Int → Int
  | [] => 0
  | x :: r => x + sumL r
def maxL (x : Int) : List Int → Int
  | [] => x
  | y :: r => maxL (if x < y then y else x) r
def bSum : Ap := fun xs m => match xs with
  | [x] => match lstM m x with
    | some l => (match intsOf l with
      | some ns => .ok (.int (sumL ns)) m
      | none => .bad)
    | none => .bad
  | _ => .bad
def bMax : Ap := fun xs m => match xs with
  | [x] => match lstM m x with
    | some l => (match intsOf l with
      | some (n :: ns) => .ok (.int (maxL n ns)) m
      | _ => .bad)
    | none => .bad
  | _ => .bad
def allB : List Bool → Bool
  | [] => true
  | b :: r => b && allB r
def anyB : List Bool → Bool
  | [] => false
  | b :: r => b || anyB r
def bAll : Ap := fun xs m => match xs with
  | [x] => match lstM m x with
    | some l => (match blsOf l with
      | some ns => .ok (.bl (allB ns)) m
      | none => .bad)
    | none => .bad
  | _ => .bad
def bAny : Ap := fun xs m => match xs with
  | [x] => match lstM m x with
    | some l => (match blsOf l with
      | some ns => .ok (.bl (anyB ns)) m
      | none => .bad)
    | none => .bad
  | _ => .bad
def bList : Ap := fun xs m => match xs with
  | [x] => match seqM m x with
    | some l => newO m (.lst l)
    | none => .bad
  | _ => .bad
def bTuple : Ap := fun xs m => match xs with
  | [x] => match seqM m x with
    | some l => .ok (.tup l) m
    | none => .bad
  | _ => .bad
/-- an empty dict by itself -/
def isNoDict (m : M) : MV → Bool
  | .ref a => match m.get a with
    | some (.dct []) => true
    | _ => false
  | _ => false
def bRepr : Ap := fun xs m => match xs with
  | [x] => bif isNoDict m x then .ok (.rep (.dict [])) m else match toD m deepest x with
    | some d => bif d.showable && fits d.shown.length then .ok (.rep d) m else .bad
    | none => .bad
  | _ => .bad
/-- isinstance against built-in types: by the kind of value -/
inductive Ty where
  | int | bool | str | tuple | list | dict
def tyM (m : M) : MV → Option String
  | .non => some "NoneType"
  | .bl _ => some "bool"
  | .int _ => some "int"
  | .str _ => some "str"
  | .rep _ => some "str"
  | .tup _ => some "tuple"
  | .ref a => match m.get a with
    | some (.lst _) => some "list"
    | some (.dct _) => some "dict"
    | _ => none
  | .glo _ => none
def isTy (m : M) (t : Ty) : MV → Option Bool
  | .non => some false
  | .bl _ => match t with
    | .int => some true
    | .bool => some true
    | _ => some false
  | .int _ => match t with
    | .int => some true
    | _ => some false
  | .str _ => match t with
    | .str => some true
    | _ => some false
  | .rep _ => match t with
    | .str => some true
    | _ => some false
  | .tup _ => match t with
    | .tuple => some true
    | _ => some false
  | .ref a => match m.get a with
    | some (.lst _) => (match t with
      | .list => some true
      | _ => some false)
    | some (.dct _) => (match t with
      | .dict => some true
      | _ => some false)
    | _ => none
  | .glo _ => none
def isTys (m : M) : List Ty → MV → Option Bool
  | [], _ => some false
  | t :: ts, v => match isTy m t v, isTys m ts v with
    | some a, some b => some (a || b)
    | _, _ => none
def cIsi (a : CE) (ts : List Ty) : CE := fun σ m => (a σ m).bind fun x m1 => match isTys m1 ts x with
  | some b => .ok (.bl b) m1
  | none => .bad

/-! ### methods -/
def mAppend : Op2 := fun x y m => match x with
  | .ref a => match m.get a with
    | some (.lst l) => bif l.length.blt 16777216 then .ok .non (m.put a (.lst (l ++ [y]))) else .bad
    | _ => .bad
  | _ => .bad
def mExtend : Op2 := fun x y m => match x, y with
  | .ref a, .ref b => match m.get a, m.get b with
    | some (.lst l), some (.lst k) => bif fits (l.length + k.length) then .ok .non (m.put a (.lst (l ++ k))) else .bad
    | _, _ => .bad
  | _, _ => .bad
def mPopAt : Op2 := fun x y m => match x, y with
  | .ref a, .int i => match m.get a with
    | some (.lst l) => bif small64 (i + i) then (match ixM l.length i with
      | some k => (match at? l k with
        | some v => .ok v (m.put a (.lst (l.eraseIdx k)))
        | none => .bad)
      | none => .bad) else .bad
    | _ => .bad
  | _, _ => .bad
def mPop : MV → M → Rs MV := fun x m => match x with
  | .ref a => match m.get a with
    | some (.lst l) => (match at? l (l.length - 1) with
      | some v => .ok v (m.put a (.lst l.dropLast))
      | none => .bad)
    | _ => .bad
  | _ => .bad

def isLst (m : M) : MV → Bool
  | .ref a => match m.get a with
    | some (.lst _) => true
    | _ => false
  | _ => false
/-- o.f(), o.f(a) of a list -/
def cMe0 (f : MV → M → Rs MV) (o : CE) : CE := fun σ m => (o σ m).bind fun x m1 => bif isLst m1 x then f x m1 else .bad
def cMe1 (f : Op2) (o a : CE) : CE := fun σ m => (o σ m).bind fun x m1 => bif isLst m1 x then (a σ m1).bind fun y m2 => f x y m2 else .bad

/-! ### statements -/
def sNil : CS := fun σ m => .ok (.nx σ) m
def sSeq (a b : CS) : CS := fun σ m => (a σ m).bind fun f m1 => match f with
  | .nx σ1 => b σ1 m1
  | f => .ok f m1
def sRet (a : CE) : CS := fun σ m => (a σ m).bind fun v m1 => .ok (.rt v) m1
def sExpr (a : CE) : CS := fun σ m => (a σ m).bind fun _ m1 => .ok (.nx σ) m1
def sIf (t : CT) (a b : CS) : CS := fun σ m => (t σ m).bind fun c m1 => bif c then a σ m1 else b σ m1
def sCont : CS := fun σ m => .ok (.ct σ) m
def gNm (i : Nat) : CG := fun v σ m => .ok (setN (some v) σ i) m
abbrev CGs := List MV → S → M → Rs S
def gsNil : CGs := fun vs σ m => match vs with
  | [] => .ok σ m
  | _ :: _ => .bad
def gsCons (g : CG) (r : CGs) : CGs := fun vs σ m => match vs with
  | v :: vs => (g v σ m).bind fun σ1 m1 => r vs σ1 m1
  | [] => .bad
def gTupC (n : Nat) (r : CGs) : CG := fun v σ m => match v with
  | .tup l => bif l.length.beq n then r l σ m else .bad
  | _ => .bad
/-- xs[i] = v of a list -/
def gSubC (o i : CE) : CG := fun v σ m => (o σ m).bind fun x m1 => (i σ m1).bind fun y m2 => match x, y with
  | .ref a, .int k => match m2.get a with
    | some (.lst l) => (match ixM l.length k with
      | some j => .ok σ (m2.put a (.lst (setN v l j)))
      | none => .bad)
    | _ => .bad
  | _, _ => .bad
def sAsg (a : CE) (g : CG) : CS := fun σ m => (a σ m).bind fun v m1 => (g v σ m1).bind fun σ1 m2 => .ok (.nx σ1) m2
/-- x, y = a, b of plain locals (their tuple is never made) -/
def setAll (σ : S) : List Nat → List MV → S
  | i :: is, v :: vs => setAll (setN (some v) σ i) is vs
  | _, _ => σ
def sPar (is : List Nat) (a : CA) : CS := fun σ m => (a σ m).bind fun vs m1 => bif vs.length.beq is.length then .ok (.nx (setAll σ is vs)) m1 else .bad

/-! ### loops -/
inductive It where
  | live (a : Nat) (n : Nat)
  | vals (l : List MV)
  | rng (lo : Int) (n : Nat)
abbrev CI := S → M → Rs It
def It.count : It → Nat
  | .live _ n => n
  | .vals l => l.length
  | .rng _ n => n
def It.at (J : It) (i : Nat) (m : M) : Option MV := match J with
  | .live a _ => (match m.get a with
    | some (.lst l) => at? l i
    | some (.frz l) => at? l i
    | _ => none)
  | .vals l => at? l i
  | .rng lo _ => some (.int (lo + i))
def It.fin (J : It) (i : Nat) (m : M) : Bool := match J with
  | .live a _ => (match m.get a with
    | some (.lst l) => l.length.ble i
    | some (.frz l) => l.length.ble i
    | _ => false)
  | _ => true
def iSeqC (a : CE) : CI := fun σ m => (a σ m).bind fun x m1 => match x with
  | .tup l => .ok (.vals l) m1
  | .ref p => match m1.get p with
    | some (.lst l) => .ok (.live p l.length) m1
    | some (.frz l) => .ok (.live p l.length) m1
    | _ => .bad
  | _ => .bad
def small62 (i : Int) : Bool := i.natAbs.blt 4611686018427387904
def iRng1 (a : CE) : CI := fun σ m => (a σ m).bind fun v m1 => match v with
  | .int j => bif small62 j then .ok (.rng 0 j.toNat) m1 else .bad
  | _ => .bad
def iRng2 (a b : CE) : CI := fun σ m => (a σ m).bind fun v m1 => (b σ m1).bind fun w m2 => match v, w with
  | .int i, .int j => bif small62 i && small62 j then .ok (.rng i (j - i).toNat) m2 else .bad
  | _, _ => .bad
def forL (J : It) (g : CG) (body : CS) : Nat → Nat → S → M → Rs Fl
  | 0, i, σ, m => bif J.fin i m then .ok (.nx σ) m else .bad
  | k + 1, i, σ, m => match J.at i m with
    | some v => (g v σ m).bind fun σ1 m1 => (body σ1 m1).bind fun f m2 => match f with
      | .nx σ2 => forL J g body k (i + 1) σ2 m2
      | .ct σ2 => forL J g body k (i + 1) σ2 m2
      | .bk σ2 => .ok (.nx σ2) m2
      | .rt v => .ok (.rt v) m2
    | none => .bad
def sFor (it : CI) (g : CG) (body : CS) : CS := fun σ m => (it σ m).bind fun J m1 => forL J g body J.count 0 σ m1
def whileL (t : CT) (body : CS) : Nat → S → M → Rs Fl
  | 0, _, _ => .bad
  | k + 1, σ, m => (t σ m).bind fun c m1 => bif c then (body σ m1).bind fun f m2 => (match f with
      | .nx σ2 => whileL t body k σ2 m2
      | .ct σ2 => whileL t body k σ2 m2
      | .bk σ2 => .ok (.nx σ2) m2
      | .rt v => .ok (.rt v) m2) else .ok (.nx σ) m1
def turnsMax : Nat := 1000000
def sWhile (t : CT) (body : CS) : CS := fun σ m => whileL t body turnsMax σ m
/-- [e for x in it if t] -/
def noX {α : Type} : Rs α → Rs α
  | .ok a m => .ok a m
  | _ => .bad
def wipeS (σ : S) : List Nat → S
  | [] => σ
  | i :: r => wipeS (setN none σ i) r
def compL (J : It) (g : CG) (t : CT) (e : CE) (σ0 : S) : Nat → Nat → M → Rs (List MV)
  | 0, i, m => bif J.fin i m then .ok [] m else .bad
  | k + 1, i, m => match J.at i m with
    | some v => (g v σ0 m).bind fun σ1 m1 => (t σ1 m1).bind fun c m2 => bif c then
        (e σ1 m2).bind fun y m3 => (compL J g t e σ0 k (i + 1) m3).bind fun ys m4 => .ok (y :: ys) m4
      else compL J g t e σ0 k (i + 1) m2
    | none => .bad
def tYesC : CT := fun _ m => .ok true m
def cComp (it : CI) (g : CG) (t : CT) (e : CE) (own : List Nat) : CE := fun σ m => (it σ m).bind fun J m1 =>
  (newO m1 .hole).bind fun r m2 => (noX (compL J g t e (wipeS σ own) J.count 0 m2)).bind fun l m3 => match r with
    | .ref a => bif fits l.length then .ok (.ref a) (m3.put a (.lst l)) else .bad
    | _ => .bad

/-! ### defs -/
def mkS (args : List MV) (more : Nat) : S := args.map some ++ List.replicate more none
def runB (n : Nat) (more : Nat) (body : CS) : List MV → M → Rs MV := fun args m => bif args.length.beq n then
  (body (mkS args more) m).bind fun f m1 => match f with
    | .nx _ => .ok .non m1
    | .rt v => .ok v m1
    | _ => .bad
  else .bad
def tab (bodies : FT → Nat → List MV → M → Rs MV) : Nat → FT
  | 0 => fun _ _ _ => .bad
  | d + 1 => bodies (tab bodies d)
end Mini

set_option Elab.async false
set_option linter.all false
set_option maxRecDepth 100000
/-! mini over the hand layer: the relation between mini's states and the abstract heap; each code's lemma. -/
namespace Mini
open PySem PySem.Spec PyProof.Rows L2

/-! ### relations -/
abbrev VS := L2.St
structure Hx (H H' : Hp) : Prop where
  tup : ∀ p xs, H p = some (.tup xs) → H' p = some (.tup xs)
  frz : ∀ p o u, H p = some (.frz o u) → H' p = some (.frz o u)
theorem Hx.refl (H : Hp) : Hx H H := ⟨fun _ _ h => h, fun _ _ _ h => h⟩
theorem Hx.trans {H H1 H2 : Hp} (a : Hx H H1) (b : Hx H1 H2) : Hx H H2 := ⟨fun p xs h => b.tup p xs (a.tup p xs h), fun p o u h => b.frz p o u (a.frz p o u h)⟩
theorem Hx.rd {H H' : Hp} (a : Hx H H') {p : Addr} {xs : List V} (h : Rd H p (.tup xs)) : Rd H' p (.tup xs) := by
  rcases h with h | ⟨o, h⟩
  · exact .inl (a.tup _ _ h)
  · exact .inr ⟨o, a.frz _ _ _ h⟩
theorem Hx.sqT {K : PySem.W.Frag} {H H' : Hp} (a : Hx H H') {p : Addr} {xs : List V} (h : SqT K H p xs) : SqT K H' p xs := h.imp a.rd id
theorem Hx.fresh {H : Hp} {p : Addr} {o : HO} (h : H p = none) : Hx H (upd H p o) :=
  ⟨fun q xs e => by rw [upd_ne (ne_of_none e h)]; exact e, fun q ob u e => by rw [upd_ne (ne_of_none e h)]; exact e⟩
theorem Hx.list {H : Hp} {p : Addr} {xs : List V} {o : HO} (h : H p = some (.lst xs)) : Hx H (upd H p o) :=
  ⟨fun q ys e => by rw [upd_ne (ne_of e h (fun z => by cases z))]; exact e, fun q ob u e => by rw [upd_ne (ne_of e h (fun z => by cases z))]; exact e⟩

mutual
def RV (K : PySem.W.Frag) (ρ : Nat → Addr) (n : Nat) (H : Hp) : MV → V → Prop
  | .non, x => x = .non
  | .bl b, x => x = .bl b
  | .int i, x => x = .int i
  | .str s, x => x = .str s
  | .rep d, x => x = .str d.shown
  | .tup l, x => ∃ p xs, x = .ref p ∧ SqT K H p xs ∧ RVs K ρ n H l xs
  | .ref a, x => a < n ∧ x = .ref (ρ a)
  | .glo s, x => x = .ref (He.ga K s)
def RVs (K : PySem.W.Frag) (ρ : Nat → Addr) (n : Nat) (H : Hp) : List MV → List V → Prop
  | [], xs => xs = []
  | v :: vs, xs => ∃ y ys, xs = y :: ys ∧ RV K ρ n H v y ∧ RVs K ρ n H vs ys
end
/-- what a stretch of the run leaves: tuples, locked things, lists that are being made, old places -/
structure Ex (ρ : Nat → Addr) (m : M) (H : Hp) (ρ' : Nat → Addr) (m' : M) (H' : Hp) : Prop where
  le : m.n ≤ m'.n
  same : ∀ a, a < m.n → ρ' a = ρ a
  hx : Hx H H'
  hole : ∀ a, m.get a = some .hole → m'.get a = some .hole ∧ H' (ρ a) = H (ρ a)
theorem Ex.refl {ρ : Nat → Addr} {m : M} {H : Hp} : Ex ρ m H ρ m H := ⟨Nat.le_refl _, fun _ _ => rfl, .refl H, fun _ h => ⟨h, rfl⟩⟩
theorem Ex.trans {ρ ρ1 ρ2 : Nat → Addr} {m m1 m2 : M} {H H1 H2 : Hp} (a : Ex ρ m H ρ1 m1 H1) (b : Ex ρ1 m1 H1 ρ2 m2 H2) : Ex ρ m H ρ2 m2 H2 :=
  ⟨Nat.le_trans a.le b.le, fun i h => (b.same i (Nat.lt_of_lt_of_le h a.le)).trans (a.same i h), a.hx.trans b.hx, fun i h => by
    obtain ⟨h1, h2⟩ := a.hole i h
    obtain ⟨h3, h4⟩ := b.hole i h1
    rw [a.same i (M.get_lt h)] at h4
    exact ⟨h3, h4.trans h2⟩⟩
section
variable {K : PySem.W.Frag} {ρ ρ' : Nat → Addr} {m m' : M} {H H' : Hp}
mutual
theorem RV.mono (e : Ex ρ m H ρ' m' H') : ∀ (v : MV) {x : V}, RV K ρ m.n H v x → RV K ρ' m'.n H' v x
  | .non, x, h => by simp only [RV] at h ⊢; exact h
  | .bl _, x, h => by simp only [RV] at h ⊢; exact h
  | .int _, x, h => by simp only [RV] at h ⊢; exact h
  | .str _, x, h => by simp only [RV] at h ⊢; exact h
  | .rep _, x, h => by simp only [RV] at h ⊢; exact h
  | .glo _, x, h => by simp only [RV] at h ⊢; exact h
  | .ref a, x, h => by
    simp only [RV] at h ⊢
    exact ⟨Nat.lt_of_lt_of_le h.1 e.le, by rw [e.same a h.1]; exact h.2⟩
  | .tup l, x, h => by
    simp only [RV] at h ⊢
    obtain ⟨p, xs, e1, e2, e3⟩ := h
    exact ⟨p, xs, e1, e.hx.sqT e2, RVs.mono e l e3⟩
theorem RVs.mono (e : Ex ρ m H ρ' m' H') : ∀ (l : List MV) {xs : List V}, RVs K ρ m.n H l xs → RVs K ρ' m'.n H' l xs
  | [], xs, h => by simp only [RVs] at h ⊢; exact h
  | v :: vs, xs, h => by
    simp only [RVs] at h ⊢
    obtain ⟨y, ys, e1, e2, e3⟩ := h
    exact ⟨y, ys, e1, RV.mono e v e2, RVs.mono e vs e3⟩
end
end
def RK (K : PySem.W.Frag) (ρ : Nat → Addr) (n : Nat) (H : Hp) : List (MV × MV) → List (Key × V) → Prop
  | [], ks => ks = []
  | (k, v) :: r, ks => ∃ q y ks', ks = (q, y) :: ks' ∧ ((∃ i, k = .int i ∧ q = .inl i) ∨ ∃ s, k = .str s ∧ q = .inr s) ∧ RV K ρ n H v y ∧ RK K ρ n H r ks'
def MO.fz : MO → Bool
  | .frz _ => true
  | _ => false
/-- a list that nobody writes: the caller's, or the module's own -/
def Fz (K : PySem.W.Frag) (H : Hp) (p : Addr) (xs : List V) : Prop := (∃ o, H p = some (.frz o (.lst xs))) ∨
  ∃ (o : Obj) (its : Array Value) (n : Nat), K.lookup p = some o ∧ o.cls = .type "list" ∧ o.dict = none ∧ o.data = .seq its n ∧ its.size ≤ sizeLine ∧ Vals xs its.toList
theorem Fz.sq {K : PySem.W.Frag} {H : Hp} {p : Addr} {xs : List V} (h : Fz K H p xs) : SqL K H p xs := h.imp .inr id
theorem Fz.mono {K : PySem.W.Frag} {H H' : Hp} {p : Addr} {xs : List V} (hx : Hx H H') (h : Fz K H p xs) : Fz K H' p xs := h.imp (fun ⟨o, e⟩ => ⟨o, hx.frz _ _ _ e⟩) id
def RO (K : PySem.W.Frag) (ρ : Nat → Addr) (n : Nat) (H : Hp) (p : Addr) : MO → Prop
  | .lst l => ∃ xs, H p = some (.lst xs) ∧ RVs K ρ n H l xs
  | .frz l => ∃ xs, Fz K H p xs ∧ RVs K ρ n H l xs
  | .hole => ∃ xs, H p = some (.lst xs)
  | .dct l => ∃ ks, H p = some (.dK ks) ∧ RK K ρ n H l ks
theorem RK.mono {K : PySem.W.Frag} {ρ ρ' : Nat → Addr} {m m' : M} {H H' : Hp} (e : Ex ρ m H ρ' m' H') : ∀ {l : List (MV × MV)} {ks : List (Key × V)}, RK K ρ m.n H l ks → RK K ρ' m'.n H' l ks
  | [], _, h => h
  | (k, v) :: r, _, h => by
    obtain ⟨q, y, ks', e1, e2, e3, e4⟩ := h
    exact ⟨q, y, ks', e1, e2, RV.mono e v e3, RK.mono e e4⟩
structure RM (K : PySem.W.Frag) (ρ : Nat → Addr) (m : M) (H : Hp) : Prop where
  inj : ∀ a b o o', m.get a = some o → m.get b = some o' → o.fz = false → o'.fz = false → ρ a = ρ b → a = b
  obj : ∀ a, a < m.n → ∃ o, m.get a = some o ∧ RO K ρ m.n H (ρ a) o
def RS (K : PySem.W.Frag) (ρ : Nat → Addr) (n : Nat) (H : Hp) (σm : S) (σ : VS) : Prop := σm.length = σ.length ∧ ∀ i v, nth σm i = some v → ∃ x, σ[i]? = some (some x) ∧ RV K ρ n H v x
theorem RS.mono {K : PySem.W.Frag} {ρ ρ' : Nat → Addr} {m m' : M} {H H' : Hp} {σm : S} {σ : VS} (h : RS K ρ m.n H σm σ) (e : Ex ρ m H ρ' m' H') : RS K ρ' m'.n H' σm σ :=
  ⟨h.1, fun i v q => let ⟨x, a, b⟩ := h.2 i v q; ⟨x, a, RV.mono e v b⟩⟩
/-- an exception: its class, its own dict, the heap behind it -/
def RXf (K : PySem.W.Frag) (ρ : Nat → Addr) (n : Nat) (H : Hp) : List (Str × MV) → List (Str × V) → Prop
  | [], ks => ks = []
  | (k, v) :: r, ks => ∃ y ks', ks = (k, y) :: ks' ∧ RV K ρ n H v y ∧ RXf K ρ n H r ks'
def RX (K : PySem.W.Frag) (ρ : Nat → Addr) (n : Nat) (H : Hp) (e : MX) (cls : Value) (d : Option Addr) : Prop :=
  cls = .ref (He.ga K e.c) ∧ ((e.fs = [] ∧ d = none) ∨ ∃ dx fs, d = some dx ∧ H dx = some (.xd fs) ∧ RXf K ρ n H e.fs fs)

abbrev Rl (α β : Type) := (Nat → Addr) → Nat → Hp → α → β → Prop
/-- what a result is to show -/
def Fin {α β : Type} (K : PySem.W.Frag) (E : XK) (R : Rl α β) (ρ : Nat → Addr) (m : M) (H : Hp) (r : Rs α) (Q : β → Hp → Prop) : Prop := match r with
  | .ok a m' => ∀ ρ' H' b, Ex ρ m H ρ' m' H' → RM K ρ' m' H' → R ρ' m'.n H' a b → Q b H'
  | .exc e m' => ∀ ρ' H' cls d, Ex ρ m H ρ' m' H' → RM K ρ' m' H' → RX K ρ' m'.n H' e cls d → E cls d H'
  | .bad => False
/-- a code's reading -/
def tC {α β : Type} (K : PySem.W.Frag) (E : XK) (R : Rl α β) (c : S → M → Rs α) : VS → Hp → (β → Hp → Prop) → Prop := fun σ H Q =>
  ∃ (ρ : Nat → Addr) (σm : S) (m : M), RM K ρ m H ∧ RS K ρ m.n H σm σ ∧ Fin K E R ρ m H (c σm m) Q
abbrev RVl (K : PySem.W.Frag) : Rl MV V := fun ρ n H => RV K ρ n H
abbrev RAl (K : PySem.W.Frag) : Rl (List MV) (List V) := fun ρ n H => RVs K ρ n H
abbrev REq (α : Type) : Rl α α := fun _ _ _ a b => a = b
abbrev RSl (K : PySem.W.Frag) : Rl S VS := fun ρ n H => RS K ρ n H

section
variable {K : PySem.W.Frag} {E : XK} {α β γ δ : Type} {ρ ρ' : Nat → Addr} {m m' : M} {H H' : Hp}
theorem Fin.base {R : Rl α β} {r : Rs α} {Q : β → Hp → Prop} (h : Fin K E R ρ m H r Q) (e : Ex ρ m H ρ' m' H') : Fin K E R ρ' m' H' r Q := by
  cases r with
  | ok a m' => exact fun ρ2 H2 b e2 => h ρ2 H2 b (e.trans e2)
  | exc x m' => exact fun ρ2 H2 c d e2 => h ρ2 H2 c d (e.trans e2)
  | bad => exact h
theorem Fin.bind {R : Rl α β} {R2 : Rl γ δ} {r : Rs α} {f : α → M → Rs γ} {Q : δ → Hp → Prop} {P : β → Hp → Prop} (h : Fin K E R2 ρ m H (r.bind f) Q)
    (k : ∀ (a : α) (m' : M) (ρ' : Nat → Addr) (H' : Hp) (b : β), Ex ρ m H ρ' m' H' → RM K ρ' m' H' → R ρ' m'.n H' a b → Fin K E R2 ρ' m' H' (f a m') Q → P b H') : Fin K E R ρ m H r P := by
  cases r with
  | ok a m' => exact fun ρ' H' b e rm rb => k a m' ρ' H' b e rm rb (Fin.base h e)
  | exc x m' => exact h
  | bad => exact h
theorem Fin.ok {R : Rl α β} {a : α} {Q : β → Hp → Prop} {b : β} (h : Fin K E R ρ m H (.ok a m) Q) (rm : RM K ρ m H) (r : R ρ m.n H a b) : Q b H := h ρ H b .refl rm r
theorem Fin.no {R : Rl α β} {Q : β → Hp → Prop} (h : Fin K E R ρ m H (.bad : Rs α) Q) : False := h
theorem Fin.mono {R : Rl α β} {r : Rs α} {Q Q' : β → Hp → Prop} (h : Fin K E R ρ m H r Q) (k : ∀ b H, Q b H → Q' b H) : Fin K E R ρ m H r Q' := by
  cases r with
  | ok a m' => exact fun ρ2 H2 b e2 rm rb => k _ _ (h ρ2 H2 b e2 rm rb)
  | exc x m' => exact h
  | bad => exact h

/-! ### the heap's steps -/
theorem RM.get (r : RM K ρ m H) {a : Nat} {o : MO} (h : m.get a = some o) : RO K ρ m.n H (ρ a) o := by
  obtain ⟨o', e, q⟩ := r.obj a (M.get_lt h)
  rw [h] at e; cases e; exact q
theorem RM.ne (r : RM K ρ m H) {p : Addr} (h : H p = none) {a : Nat} {o : MO} (ha : m.get a = some o) (hf : o.fz = false) : ρ a ≠ p := fun z => by
  have q := r.get ha
  rw [z] at q
  cases o with
  | lst l => obtain ⟨xs, e, _⟩ := q; rw [h] at e; cases e
  | frz l => cases hf
  | hole => obtain ⟨xs, e⟩ := q; rw [h] at e; cases e
  | dct l => obtain ⟨xs, e, _⟩ := q; rw [h] at e; cases e
theorem RO.ex {p : Addr} {o : MO} (e : Ex ρ m H ρ' m' H') (hp : o.fz = false → H' p = H p) (h : RO K ρ m.n H p o) : RO K ρ' m'.n H' p o := by
  cases o with
  | lst l => obtain ⟨xs, a, b⟩ := h; exact ⟨xs, by rw [hp rfl]; exact a, RVs.mono e l b⟩
  | frz l => obtain ⟨xs, a, b⟩ := h; exact ⟨xs, a.mono e.hx, RVs.mono e l b⟩
  | hole => obtain ⟨xs, a⟩ := h; exact ⟨xs, by rw [hp rfl]; exact a⟩
  | dct l => obtain ⟨xs, a, b⟩ := h; exact ⟨xs, by rw [hp rfl]; exact a, RK.mono e b⟩
/-- the heap may have grown by what is not ours -/
theorem RM.grow (r : RM K ρ m H) (hx : Hx H H') (hk : ∀ a o, m.get a = some o → o.fz = false → H' (ρ a) = H (ρ a)) : RM K ρ m H' ∧ Ex ρ m H ρ m H' := by
  have e : Ex ρ m H ρ m H' := ⟨Nat.le_refl _, fun _ _ => rfl, hx, fun a h => ⟨h, hk a _ h rfl⟩⟩
  exact ⟨⟨r.inj, fun a ha => let ⟨o, g, q⟩ := r.obj a ha; ⟨o, g, RO.ex e (hk a o g) q⟩⟩, e⟩
/-- something new that mini does not track (a tuple) -/
theorem RM.beside (r : RM K ρ m H) {p : Addr} {o : HO} (h : H p = none) : RM K ρ m (upd H p o) ∧ Ex ρ m H ρ m (upd H p o) :=
  r.grow (.fresh h) fun a o ha hf => upd_ne (r.ne h ha hf)
def ext (ρ : Nat → Addr) (n : Nat) (p : Addr) : Nat → Addr := fun a => if a = n then p else ρ a
theorem ext_new {n : Nat} {p : Addr} : ext ρ n p n = p := by unfold ext; rw [if_pos rfl]
theorem ext_old {n a : Nat} {p : Addr} (h : a < n) : ext ρ n p a = ρ a := by unfold ext; rw [if_neg (by omega)]
theorem ex_new (r : RM K ρ m H) {p : Addr} {o : MO} {ho : HO} (h : H p = none) : Ex ρ m H (ext ρ m.n p) (m.new o) (upd H p ho) :=
  ⟨Nat.le_succ _, fun a ha => ext_old ha, .fresh h, fun a ha => by
    have la := M.get_lt ha
    rw [M.get_new, if_neg (by omega)]
    exact ⟨ha, upd_ne (r.ne h ha rfl)⟩⟩
/-- a new object -/
theorem RM.fresh (r : RM K ρ m H) {p : Addr} {o : MO} {ho : HO} (h : H p = none) (q : RO K (ext ρ m.n p) (m.n + 1) (upd H p ho) p o) : RM K (ext ρ m.n p) (m.new o) (upd H p ho) := by
  refine ⟨fun a b oa ob ha hb fa fb e => ?_, fun a ha => ?_⟩
  · have la : a < m.n + 1 := M.get_lt ha
    have lb : b < m.n + 1 := M.get_lt hb
    rw [M.get_new] at ha hb
    rcases Nat.lt_or_ge a m.n with h1 | h1
    · rw [if_neg (by omega)] at ha
      rcases Nat.lt_or_ge b m.n with h2 | h2
      · rw [if_neg (by omega)] at hb
        rw [ext_old h1, ext_old h2] at e; exact r.inj a b oa ob ha hb fa fb e
      · have : b = m.n := by omega
        subst this
        rw [ext_old h1, ext_new] at e
        exact absurd e (r.ne h ha fa)
    · have : a = m.n := by omega
      subst this
      rcases Nat.lt_or_ge b m.n with h2 | h2
      · rw [if_neg (by omega)] at hb
        rw [ext_old h2, ext_new] at e
        exact absurd e.symm (r.ne h hb fb)
      · omega
  · have ha : a < m.n + 1 := ha
    rw [M.get_new]
    rcases Nat.lt_or_ge a m.n with h1 | h1
    · obtain ⟨o', g, q'⟩ := r.obj a h1
      rw [if_neg (by omega), g, ext_old h1]
      exact ⟨o', rfl, RO.ex (ex_new (o := o) r h) (fun hf => upd_ne (r.ne h g hf)) q'⟩
    · have : a = m.n := by omega
      subst this
      rw [if_pos rfl, ext_new]
      exact ⟨o, rfl, q⟩
theorem put_inj (r : RM K ρ m H) {a : Nat} {o o0 : MO} (g : m.get a = some o0) (f0 : o0.fz = false) (f1 : o.fz = false) : ∀ b c ob oc, (m.put a o).get b = some ob → (m.put a o).get c = some oc → ob.fz = false → oc.fz = false → ρ b = ρ c → b = c := fun b c ob oc hb hc fb fc e => by
  rw [M.get_put (M.get_lt g)] at hb hc
  have gb : ∃ o', m.get b = some o' ∧ o'.fz = false := by
    by_cases z : b = a
    · exact ⟨o0, by rw [z]; exact g, f0⟩
    · rw [if_neg z] at hb; exact ⟨ob, hb, fb⟩
  have gc : ∃ o', m.get c = some o' ∧ o'.fz = false := by
    by_cases z : c = a
    · exact ⟨o0, by rw [z]; exact g, f0⟩
    · rw [if_neg z] at hc; exact ⟨oc, hc, fc⟩
  obtain ⟨o1, g1, k1⟩ := gb
  obtain ⟨o2, g2, k2⟩ := gc
  exact r.inj b c o1 o2 g1 g2 k1 k2 e
/-- an object is changed: what is left of the relation -/
theorem RM.set (r : RM K ρ m H) {a : Nat} {o o0 : MO} {ho : HO} {xs : List V} (g : m.get a = some o0) (f0 : o0.fz = false) (f1 : o.fz = false) (h : H (ρ a) = some (.lst xs)) (q : ∀ m' : M, m'.n = m.n → Hx H (upd H (ρ a) ho) → RO K ρ m.n (upd H (ρ a) ho) (ρ a) o) :
    RM K ρ (m.put a o) (upd H (ρ a) ho) := by
  have ha := M.get_lt g
  have hx : Hx H (upd H (ρ a) ho) := .list h
  have keep : ∀ b o', m.get b = some o' → b ≠ a → o'.fz = false → upd H (ρ a) ho (ρ b) = H (ρ b) := fun b o' hb z hf => upd_ne fun w => z (r.inj b a o' o0 hb g hf f0 w)
  refine ⟨put_inj r g f0 f1, fun b hb => ?_⟩
  have hb : b < m.n := hb
  rw [M.get_put ha]
  by_cases z : b = a
  · subst z; rw [if_pos rfl]; exact ⟨o, rfl, q m rfl hx⟩
  · obtain ⟨o', g', q'⟩ := r.obj b hb
    rw [if_neg z, g']
    refine ⟨o', rfl, ?_⟩
    have e : Ex ρ ⟨m.n, .lf⟩ H ρ ⟨m.n, .lf⟩ (upd H (ρ a) ho) := ⟨Nat.le_refl _, fun _ _ => rfl, hx, fun a h => by
      unfold M.get at h
      cases q : a.blt m.n <;> simp [q, Tr.get] at h⟩
    exact RO.ex (m := ⟨m.n, .lf⟩) (m' := ⟨m.n, .lf⟩) e (keep b o' g' z) q'
theorem ex_set (r : RM K ρ m H) {a : Nat} {o : MO} {l : List MV} {ho : HO} {xs : List V} (g : m.get a = some (.lst l)) (h : H (ρ a) = some (.lst xs)) : Ex ρ m H ρ (m.put a o) (upd H (ρ a) ho) :=
  ⟨Nat.le_refl _, fun _ _ => rfl, .list h, fun b hb => by
    have ne : b ≠ a := fun z => by rw [z, g] at hb; cases hb
    rw [M.get_put (M.get_lt g), if_neg ne]
    exact ⟨hb, upd_ne fun w => ne (r.inj b a _ _ hb g rfl rfl w)⟩⟩
end
end Mini

set_option Elab.async false
set_option linter.all false
set_option maxRecDepth 100000
/-! mini: expressions, tests, arguments. -/
namespace Mini
open PySem PySem.Spec PyProof.Rows L2

section
variable {X : Cx} {E : XK} {a b c e : Expr} {pos : Pos}

theorem PE.imp {t t' : TE} (h : PE X e t) (k : ∀ σ H Q, t' σ H Q → t σ H Q) : PE X e t' := ⟨fun pins s σ H Q I q => h.run pins s σ H Q I (k _ _ _ q)⟩
theorem PT.imp {t t' : TT} (h : PT X e t) (k : ∀ σ H Q, t' σ H Q → t σ H Q) : PT X e t' := ⟨fun pins s σ H Q I q => h.run pins s σ H Q I (k _ _ _ q)⟩
theorem PW.imp {t t' : TT} (h : PW X e t) (k : ∀ σ H Q, t' σ H Q → t σ H Q) : PW X e t' := ⟨fun wh pins s σ H Q I q => h.run wh pins s σ H Q I (k _ _ _ q)⟩
theorem PA.imp {es : List Expr} {t t' : TA} (h : PA X es t) (k : ∀ σ H Q, t' σ H Q → t σ H Q) : PA X es t' := ⟨fun p pins s σ H Q I q => h.run p pins s σ H Q I (k _ _ _ q)⟩
theorem OpR.imp {f : Value → Value → Sem Value} {r r' : R2} (h : OpR X f r) (k : ∀ x y H Q, r' x y H Q → r x y H Q) : OpR X f r' := fun pins s σ H x y v u Q I rx ry q => h pins s σ H x y v u Q I rx ry (k _ _ _ _ q)
theorem CallR.imp {f : Value} {r r' : List V → Hp → VK → Prop} (h : CallR X f r) (k : ∀ x H Q, r' x H Q → r x H Q) : CallR X f r' := fun pins s σ H xs us Q I rx q => h pins s σ H xs us Q I rx (k _ _ _ q)

abbrev SE (X : Cx) (E : XK) (e : Expr) (c : CE) : Prop := PE X e (tC X.K E (RVl X.K) c)
abbrev ST (X : Cx) (E : XK) (e : Expr) (c : CT) : Prop := PT X e (tC X.K E (REq Bool) c)
abbrev SW (X : Cx) (E : XK) (e : Expr) (c : CT) : Prop := PW X e (tC X.K E (REq Bool) c)
abbrev SA (X : Cx) (E : XK) (es : List Expr) (c : CA) : Prop := PA X es (tC X.K E (RAl X.K) c)

/-- the first part's reading, then what follows -/
theorem tC.bind {α β γ δ : Type} {K : PySem.W.Frag} {R : Rl α β} {R2 : Rl γ δ} {c : S → M → Rs α} {f : S → α → M → Rs γ} {σ : VS} {H : Hp} {Q : δ → Hp → Prop} {P : β → Hp → Prop}
    (h : tC K E R2 (fun σ m => (c σ m).bind (f σ)) σ H Q)
    (k : ∀ (σm : S) (a : α) (m' : M) (ρ' : Nat → Addr) (H' : Hp) (b : β), RM K ρ' m' H' → RS K ρ' m'.n H' σm σ → R ρ' m'.n H' a b → Fin K E R2 ρ' m' H' (f σm a m') Q → P b H') : tC K E R c σ H P := by
  obtain ⟨ρ, σm, m, rm, rs, h⟩ := h
  exact ⟨ρ, σm, m, rm, rs, Fin.bind h fun a m' ρ' H' b ex rm' r q => k σm a m' ρ' H' b rm' (rs.mono ex) r q⟩
/-- two parts in a row, then what is done with both -/
theorem tC.two {α β γ δ ε ζ : Type} {K : PySem.W.Frag} {R : Rl α β} {R2 : Rl γ δ} {R3 : Rl ε ζ} {c : S → M → Rs α} {d : S → M → Rs γ} {f : S → α → γ → M → Rs ε} {σ : VS} {H : Hp} {Q : ζ → Hp → Prop} {P : β → δ → Hp → Prop}
    (mono : ∀ {ρ m H ρ' m' H'} {a : α} {b : β}, Ex ρ m H ρ' m' H' → R ρ m.n H a b → R ρ' m'.n H' a b)
    (h : tC K E R3 (fun σ m => (c σ m).bind fun x m1 => (d σ m1).bind fun y m2 => f σ x y m2) σ H Q)
    (k : ∀ (σm : S) (a : α) (a2 : γ) (m' : M) (ρ' : Nat → Addr) (H' : Hp) (b : β) (b2 : δ), RM K ρ' m' H' → RS K ρ' m'.n H' σm σ → R ρ' m'.n H' a b → R2 ρ' m'.n H' a2 b2 → Fin K E R3 ρ' m' H' (f σm a a2 m') Q → P b b2 H') :
    tC K E R c σ H fun b H1 => tC K E R2 d σ H1 fun b2 H2 => P b b2 H2 := by
  refine tC.bind h fun σm a m1 ρ1 H1 b rm1 rs1 r1 q1 => ?_
  refine ⟨ρ1, σm, m1, rm1, rs1, Fin.bind q1 fun a2 m2 ρ2 H2 b2 ex rm2 r2 q2 => ?_⟩
  exact k σm a a2 m2 ρ2 H2 b b2 rm2 (rs1.mono ex) (mono ex r1) r2 q2
theorem monoV {K : PySem.W.Frag} {ρ ρ' : Nat → Addr} {m m' : M} {H H' : Hp} {v : MV} {x : V} (e : Ex ρ m H ρ' m' H') (h : RV K ρ m.n H v x) : RV K ρ' m'.n H' v x := RV.mono e v h
theorem monoL {K : PySem.W.Frag} {ρ ρ' : Nat → Addr} {m m' : M} {H H' : Hp} {v : List MV} {x : List V} (e : Ex ρ m H ρ' m' H') (h : RVs K ρ m.n H v x) : RVs K ρ' m'.n H' v x := RVs.mono e v h

/-! ### names, constants -/
/-- a name that stands in slot i -/
structure Sl (X : Cx) (i : Nat) (x : Str) : Prop where
  at_ : X.N[i]? = some x
  vis : Vis X.env.scope x
  db : (x == ("__debug__" : Str)) = false
  cd : (x == ("__classdict__" : Str)) = false
theorem d_var {i : Nat} {x : Str} (v : Sl X i x) : SE X E (.Name x pos) (cVar i) := PE.imp (pe_var v.at_ v.vis v.db v.cd) fun σ H Q ⟨ρ, σm, m, rm, rs, h⟩ => by
  unfold cVar at h
  cases q : nth σm i with
  | none => rw [q] at h; exact h.elim
  | some w =>
    rw [q] at h
    obtain ⟨x, e1, rx⟩ := rs.2 i w q
    exact ⟨x, e1, h.ok (R := RVl X.K) rm rx⟩
theorem lit_of {v : MV} {x : V} (hv : ∀ ρ n H, RV X.K ρ n H v x) (h : PE X e (L2.tC x)) : SE X E e (cLit v) := PE.imp h fun σ H Q ⟨ρ, σm, m, rm, rs, h⟩ =>
  h.ok (R := RVl X.K) rm (hv _ _ _)
theorem d_int {i : Int} {j : Nat} : SE X E (.Constant (.int i) j pos) (cLit (.int i)) := lit_of (fun _ _ _ => by simp only [RV]) pe_int
theorem d_bl {b : Bool} {j : Nat} : SE X E (.Constant (.bool b) j pos) (cLit (.bl b)) := lit_of (fun _ _ _ => by simp only [RV]) pe_bl
theorem d_non {j : Nat} : SE X E (.Constant .none j pos) (cLit .non) := lit_of (fun _ _ _ => by simp only [RV]) pe_non
theorem d_str {x : Str} {j : Nat} : SE X E (.Constant (.str x) j pos) (cLit (.str x)) := lit_of (fun _ _ _ => by simp only [RV]) pe_str
/-- a global name -/
structure Gn (X : Cx) (x : Str) : Prop where
  gl : Gl X x
  db : (x == ("__debug__" : Str)) = false
  nn : x ≠ "__name__"
theorem d_gInt {x : Str} {i : Int} (g : Gn X x) (hm : ∃ t, X.mg x = some (.int i t)) : SE X E (.Name x pos) (cLit (.int i)) := by
  obtain ⟨t, hm⟩ := hm
  exact lit_of (x := .int i) (fun _ _ _ => by simp only [RV]) (pe_glob g.gl hm ⟨t, rfl⟩ g.db)
theorem d_gStr {x z : Str} (g : Gn X x) (hm : ∃ t, X.mg x = some (.str z t)) : SE X E (.Name x pos) (cLit (.str z)) := by
  obtain ⟨t, hm⟩ := hm
  exact lit_of (x := .str z) (fun _ _ _ => by simp only [RV]) (pe_glob g.gl hm ⟨t, rfl⟩ g.db)
/-- a module's tuple of flat items -/
def flatOf : MV → V
  | .bl b => .bl b
  | .int i => .int i
  | .str s => .str s
  | _ => .non
theorem rvs_flat {K : PySem.W.Frag} {ρ : Nat → Addr} {n : Nat} {H : Hp} : ∀ {l : List MV}, l.all isFlat = true → RVs K ρ n H l (l.map flatOf)
  | [], _ => by simp only [RVs, List.map_nil]
  | v :: l, h => by
    rw [List.all_cons, Bool.and_eq_true] at h
    simp only [RVs, List.map_cons]
    refine ⟨_, _, rfl, ?_, rvs_flat h.2⟩
    cases v <;> simp [RV, flatOf, isFlat] at h ⊢
theorem d_gTup {x : Str} {l : List MV} (g : Gn X x) (hm : X.mg x = some (.ref (He.ga X.K x))) (ht : ∀ H, SqT X.K H (He.ga X.K x) (l.map flatOf)) (hf : l.all isFlat = true) : SE X E (.Name x pos) (cLit (.tup l)) :=
  lit_of (x := .ref (He.ga X.K x)) (fun _ _ _ => by simp only [RV]; exact ⟨_, _, rfl, ht _, rvs_flat hf⟩) (pe_glob g.gl hm rfl g.db)
theorem d_gObj {x : Str} (g : Gn X x) (hm : X.mg x = some (.ref (He.ga X.K x))) : SE X E (.Name x pos) (cLit (.glo x)) :=
  lit_of (x := .ref (He.ga X.K x)) (fun _ _ _ => by simp only [RV]) (pe_glob g.gl hm rfl g.db)

/-! ### operators -/
/-- a two-place operation -/
def OpM (X : Cx) (E : XK) (f : Value → Value → Sem Value) (fm : Op2) : Prop :=
  OpR X f fun x y H Q => ∃ (ρ : Nat → Addr) (m : M) (v w : MV), RM X.K ρ m H ∧ RV X.K ρ m.n H v x ∧ RV X.K ρ m.n H w y ∧ Fin X.K E (RVl X.K) ρ m H (fm v w m) Q
theorem OpM.of {f : Value → Value → Sem Value} {fm : Op2} {r : R2} (h : OpR X f r)
    (k : ∀ (ρ : Nat → Addr) (m : M) (H : Hp) (v w : MV) (x y : V) (Q : VK), RM X.K ρ m H → RV X.K ρ m.n H v x → RV X.K ρ m.n H w y → Fin X.K E (RVl X.K) ρ m H (fm v w m) Q → r x y H Q) : OpM X E f fm :=
  OpR.imp h fun x y H Q ⟨ρ, m, v, w, rm, rv, rw', q⟩ => k ρ m H v w x y Q rm rv rw' q
theorem d_bin {op : Operator} {fm : Op2} {ca cb : CE} (ho : OpM X E (binaryOp op) fm) (ha : SE X E a ca) (hb : SE X E b cb) : SE X E (.BinOp a op b pos) (cBin fm ca cb) :=
  PE.imp (pe_op ho ha hb) fun σ H Q h => tC.two monoV h fun σm v w m ρ H x y rm rs rv rw' q => ⟨ρ, m, v, w, rm, rv, rw', q⟩
theorem d_cmp {op : CmpOp} {fm : Op2} {ca cb : CE} (ho : OpM X E (compareOp op) fm) (ha : SE X E a ca) (hb : SE X E b cb) (hm : behindInMarks op b = false) : SE X E (.Compare a [op] [b] pos) (cBin fm ca cb) :=
  PE.imp (pe_cmpR ho ha hb hm) fun σ H Q h => tC.two monoV h fun σm v w m ρ H x y rm rs rv rw' q => ⟨ρ, m, v, w, rm, rv, rw', q⟩
theorem tval_fin {r : Rs MV} {ρ : Nat → Addr} {m : M} {H : Hp} {Q : Bool → Hp → Prop} (h : Fin X.K E (REq Bool) ρ m H (r.bind fun x m1 => match x with
  | .bl c => .ok c m1
  | _ => .bad) Q) : Fin X.K E (RVl X.K) ρ m H r fun x H' => ∃ k, x = .bl k ∧ Q k H' := Fin.bind h fun v m' ρ' H' x ex rm rv q => by
  cases v <;> first | exact q.elim | skip
  simp only [RVl, RV] at rv
  exact ⟨_, rv, q.ok (R := REq Bool) rm rfl⟩
theorem t_cmp {op : CmpOp} {fm : Op2} {ca cb : CE} (ho : OpM X E (compareOp op) fm) (ha : SE X E a ca) (hb : SE X E b cb) (hm : behindInMarks op b = false) : ST X E (.Compare a [op] [b] pos) (tVal (cBin fm ca cb)) :=
  PT.imp (pt_cmpR ho ha hb hm) fun σ H Q ⟨ρ, σm, m, rm, rs, h⟩ => by
    have h2 : tC X.K E (RVl X.K) (cBin fm ca cb) σ H (fun x H' => ∃ k, x = .bl k ∧ Q k H') := ⟨ρ, σm, m, rm, rs, tval_fin h⟩
    exact tC.two monoV h2 fun σm v w m ρ H x y rm rs rv rw' q => ⟨ρ, m, v, w, rm, rv, rw', q⟩
theorem chain_read {f g : Op2} {ca cb cc : CE} {σ : VS} {H : Hp} {Q : VK} (h : tC X.K E (RVl X.K) (cChain f g ca cb cc) σ H Q) :
    tChain (fun x y H Q => ∃ (ρ : Nat → Addr) (m : M) (v w : MV), RM X.K ρ m H ∧ RV X.K ρ m.n H v x ∧ RV X.K ρ m.n H w y ∧ Fin X.K E (RVl X.K) ρ m H (f v w m) Q)
      (fun x y H Q => ∃ (ρ : Nat → Addr) (m : M) (v w : MV), RM X.K ρ m H ∧ RV X.K ρ m.n H v x ∧ RV X.K ρ m.n H w y ∧ Fin X.K E (RVl X.K) ρ m H (g v w m) Q)
      (tC X.K E (RVl X.K) ca) (tC X.K E (RVl X.K) cb) (tC X.K E (RVl X.K) cc) σ H Q := by
  refine tC.two monoV h fun σm v w m ρ H x y rm rs rv rw' q => ⟨ρ, m, v, w, rm, rv, rw', Fin.bind q fun z m3 ρ3 H3 zz ex3 rm3 rz q3 => ?_⟩
  cases z <;> first | exact q3.elim | skip
  rename_i k
  simp only [RVl, RV] at rz
  refine ⟨k, rz, ?_⟩
  cases k with
  | false => rw [if_neg Bool.false_ne_true]; exact q3.ok (R := RVl X.K) rm3 (by simp only [RVl, RV])
  | true =>
    rw [if_pos rfl]
    exact ⟨ρ3, σm, m3, rm3, rs.mono ex3, Fin.bind q3 fun u m4 ρ4 H4 uu ex4 rm4 ru q4 => ⟨ρ4, m4, w, u, rm4, RV.mono (ex3.trans ex4) _ rw', ru, q4⟩⟩
theorem d_chain {op op' : CmpOp} {f g : Op2} {ca cb cc : CE} (ho : OpM X E (compareOp op) f) (ho' : OpM X E (compareOp op') g) (ha : SE X E a ca) (hb : SE X E b cb) (hc : SE X E c cc)
    (hm : lastMarks [op, op'] [b, c] = false) : SE X E (.Compare a [op, op'] [b, c] pos) (cChain f g ca cb cc) := PE.imp (pe_chain ho ho' ha hb hc hm) fun σ H Q h => chain_read h
theorem t_chain {op op' : CmpOp} {f g : Op2} {ca cb cc : CE} (ho : OpM X E (compareOp op) f) (ho' : OpM X E (compareOp op') g) (ha : SE X E a ca) (hb : SE X E b cb) (hc : SE X E c cc)
    (hm : lastMarks [op, op'] [b, c] = false) : ST X E (.Compare a [op, op'] [b, c] pos) (tVal (cChain f g ca cb cc)) := PT.imp (pt_chain ho ho' ha hb hc hm) fun σ H Q ⟨ρ, σm, m, rm, rs, h⟩ =>
  chain_read ⟨ρ, σm, m, rm, rs, tval_fin h⟩

/-! ### truth, and, or, not, if -/
theorem t_val {ca : CE} (ha : SE X E a ca) (he : ∀ whole, isTrue a X.env whole = (do let v ← whole; standAt a.pos; holding [v] (truthy v))) : ST X E a (tVal ca) :=
  PT.imp (pt_val ha he) fun σ H Q ⟨ρ, σm, m, rm, rs, h⟩ => ⟨ρ, σm, m, rm, rs, tval_fin h⟩
theorem RVs.empty {K : PySem.W.Frag} {ρ : Nat → Addr} {n : Nat} {H : Hp} {l : List MV} {xs : List V} (h : RVs K ρ n H l xs) : l.isEmpty = xs.isEmpty := by
  cases l with
  | nil => simp only [RVs] at h; rw [h]; rfl
  | cons v l => simp only [RVs] at h; obtain ⟨y, ys, e, _⟩ := h; rw [e]; rfl
theorem t_tru {ca : CE} (ha : SE X E a ca) (he : ∀ whole, isTrue a X.env whole = (do let v ← whole; standAt a.pos; holding [v] (truthy v))) : ST X E a (tTru ca) :=
  PT.imp (pt_truth ha he) fun σ H Q h => tC.bind h fun σm v m ρ H x rm rs rv q => by
    cases v with
    | non => simp only [RV] at rv; subst rv; exact ⟨false, rfl, q.ok (R := REq Bool) rm rfl⟩
    | bl b => simp only [RV] at rv; subst rv; exact ⟨b, rfl, q.ok (R := REq Bool) rm rfl⟩
    | int i => simp only [RV] at rv; subst rv; exact ⟨_, rfl, q.ok (R := REq Bool) rm rfl⟩
    | str s => exact q.elim
    | rep d => exact q.elim
    | glo s => exact q.elim
    | tup l =>
      simp only [RV] at rv
      obtain ⟨p, xs, rfl, ht, rl⟩ := rv
      exact ⟨_, .inr (.inl ⟨xs, ht, rfl⟩), by rw [← RVs.empty rl]; exact q.ok (R := REq Bool) rm rfl⟩
    | ref p =>
      simp only [RV] at rv
      obtain ⟨hp, rfl⟩ := rv
      simp only [truM, seqM] at q
      cases g : m.get p with
      | none => rw [g] at q; exact q.elim
      | some o =>
        rw [g] at q
        have ro := rm.get g
        cases o with
        | lst l => obtain ⟨xs, e, r⟩ := ro; exact ⟨_, .inl ⟨xs, SqL.of e, rfl⟩, by rw [← RVs.empty r]; exact q.ok (R := REq Bool) rm rfl⟩
        | frz l => obtain ⟨xs, e, r⟩ := ro; exact ⟨_, .inl ⟨xs, e.sq, rfl⟩, by rw [← RVs.empty r]; exact q.ok (R := REq Bool) rm rfl⟩
        | hole => exact q.elim
        | dct l => exact q.elim
theorem t_w {ca : CT} (h : SW X E a ca) : ST X E a ca := h.pt
theorem w_and1 {ca : CT} (h : ST X E a ca) : SW X E (.BoolOp .And [a] pos) ca := pw_and1 h
theorem w_or1 {ca : CT} (h : ST X E a ca) : SW X E (.BoolOp .Or [a] pos) ca := pw_or1 h
theorem w_and {ca cb : CT} {rest : List Expr} (ha : ST X E a ca) (hb : SW X E (.BoolOp .And (b :: rest) pos) cb) : SW X E (.BoolOp .And (a :: b :: rest) pos) (tAndC ca cb) :=
  PW.imp (pw_and ha hb) fun σ H Q h => tC.bind h fun σm v m ρ H x rm rs rv q => by
    cases (show v = x from rv)
    cases v with
    | false => exact q.ok (R := REq Bool) rm rfl
    | true => exact ⟨ρ, σm, m, rm, rs, q⟩
theorem w_or {ca cb : CT} {rest : List Expr} (ha : ST X E a ca) (hb : SW X E (.BoolOp .Or (b :: rest) pos) cb) : SW X E (.BoolOp .Or (a :: b :: rest) pos) (tOrC ca cb) :=
  PW.imp (pw_or ha hb) fun σ H Q h => tC.bind h fun σm v m ρ H x rm rs rv q => by
    cases (show v = x from rv)
    cases v with
    | true => exact q.ok (R := REq Bool) rm rfl
    | false => exact ⟨ρ, σm, m, rm, rs, q⟩
theorem t_not {ca : CT} (ha : ST X E a ca) : ST X E (.UnaryOp .Not a pos) (tNotC ca) :=
  PT.imp (pt_not ha) fun σ H Q h => tC.bind h fun σm v m ρ H x rm rs rv q => by
    cases (show v = x from rv)
    exact q.ok (R := REq Bool) rm rfl
theorem d_one {op : BoolOp} {ca : CE} (h : SE X E a ca) : SE X E (.BoolOp op [a] pos) ca := pe_one h
theorem d_and {ca cb : CE} {rest : List Expr} (ha : SE X E a ca) (hb : SE X E (.BoolOp .And (b :: rest) pos) cb) : SE X E (.BoolOp .And (a :: b :: rest) pos) (cAnd ca cb) :=
  PE.imp (pe_and ha hb) fun σ H Q h => tC.bind h fun σm v m ρ H x rm rs rv q => by
    cases v <;> first | exact q.elim | skip
    rename_i k
    simp only [RVl, RV] at rv
    refine ⟨k, rv, ?_⟩
    cases k with
    | false => exact q.ok (R := RVl X.K) rm (by simp only [RVl, RV])
    | true => exact ⟨ρ, σm, m, rm, rs, q⟩
theorem d_or {ca cb : CE} {rest : List Expr} (ha : SE X E a ca) (hb : SE X E (.BoolOp .Or (b :: rest) pos) cb) : SE X E (.BoolOp .Or (a :: b :: rest) pos) (cOr ca cb) :=
  PE.imp (pe_or ha hb) fun σ H Q h => tC.bind h fun σm v m ρ H x rm rs rv q => by
    cases v <;> first | exact q.elim | skip
    rename_i k
    simp only [RVl, RV] at rv
    refine ⟨k, rv, ?_⟩
    cases k with
    | true => exact q.ok (R := RVl X.K) rm (by simp only [RVl, RV])
    | false => exact ⟨ρ, σm, m, rm, rs, q⟩
theorem d_not {ca : CE} (ha : SE X E a ca) : SE X E (.UnaryOp .Not a pos) (cNot ca) :=
  PE.imp (pe_not ha) fun σ H Q h => tC.bind h fun σm v m ρ H x rm rs rv q => by
    cases v <;> first | exact q.elim | skip
    simp only [RVl, RV] at rv
    exact ⟨_, rv, q.ok (R := RVl X.K) rm (by simp only [RVl, RV])⟩
theorem d_if {ct : CT} {ca cb : CE} (hc : ST X E c ct) (ha : SE X E a ca) (hb : SE X E b cb) : SE X E (.IfExp c a b pos) (cIf ct ca cb) :=
  PE.imp (pe_ifExp hc ha hb) fun σ H Q h => tC.bind h fun σm v m ρ H x rm rs rv q => by
    cases (show v = x from rv)
    cases v <;> exact ⟨ρ, σm, m, rm, rs, q⟩

/-! ### arguments, displays -/
theorem a_nil : SA X E [] aNil := PA.imp pa_nil fun σ H Q ⟨ρ, σm, m, rm, rs, h⟩ => h.ok (R := RAl X.K) rm (by simp only [RAl, RVs])
theorem a_cons {es : List Expr} {ca : CE} {cr : CA} (ha : SE X E a ca) (hr : SA X E es cr) (hs : starEach (a :: es) X.env = (false, eval a X.env) :: starEach es X.env := by rfl) : SA X E (a :: es) (aCons ca cr) :=
  PA.imp (pa_cons ha hr hs) fun σ H Q h => tC.two (R2 := RAl X.K) monoV h fun σm v w m ρ H x y rm rs rv rw' q => q.ok (R := RAl X.K) rm (by simp only [RAl, RVs]; exact ⟨_, _, rfl, rv, rw'⟩)
theorem RVs.len {K : PySem.W.Frag} {ρ : Nat → Addr} {n : Nat} {H : Hp} : ∀ {l : List MV} {xs : List V}, RVs K ρ n H l xs → l.length = xs.length
  | [], xs, h => by simp only [RVs] at h; rw [h]; rfl
  | v :: l, xs, h => by
    simp only [RVs] at h
    obtain ⟨y, ys, e, _, r⟩ := h
    rw [e, List.length_cons, List.length_cons, RVs.len r]
theorem fits_iff {n : Nat} : fits n = true ↔ n ≤ sizeLine := by
  unfold fits
  rw [Nat.ble_eq, sizeLine_eq]
theorem d_tup {es : List Expr} {cs : CA} {k : Nat} (h : SA X E es cs) : SE X E (.Tuple es k pos) (cTup cs) :=
  PE.imp (pe_tup h) fun σ H Q h => tC.bind h fun σm l m ρ H xs rm rs rl q => by
    cases z : fits l.length with
    | false => rw [z] at q; exact q.elim
    | true =>
      rw [z] at q
      refine ⟨by rw [← RVs.len rl]; exact fits_iff.mp z, fun p np => ?_⟩
      obtain ⟨rm2, ex2⟩ := rm.beside (o := .tup xs) np
      exact (Fin.base q ex2).ok (R := RVl X.K) rm2 (by simp only [RVl, RV]; exact ⟨p, xs, rfl, SqT.of upd_same, RVs.mono ex2 l rl⟩)
/-- a new object's end -/
theorem fin_new {ρ : Nat → Addr} {m : M} {H : Hp} {o : MO} {ho : HO} {Q : VK} {p : Addr} (h : Fin X.K E (RVl X.K) ρ m H (newO m o) Q) (rm : RM X.K ρ m H) (np : H p = none)
    (q : RO X.K (ext ρ m.n p) (m.n + 1) (upd H p ho) p o) : Q (.ref p) (upd H p ho) := by
  have rm2 := rm.fresh (o := o) (ho := ho) np q
  refine h (ext ρ m.n p) (upd H p ho) (.ref p) (ex_new rm np) rm2 ?_
  simp only [RVl, RV]
  exact ⟨Nat.lt_succ_self _, by rw [ext_new]⟩
theorem fin_newL {ρ : Nat → Addr} {m : M} {H : Hp} {l : List MV} {xs : List V} {Q : VK} {p : Addr} (h : Fin X.K E (RVl X.K) ρ m H (newO m (.lst l)) Q) (rm : RM X.K ρ m H) (rl : RVs X.K ρ m.n H l xs) (np : H p = none) : Q (.ref p) (upd H p (.lst xs)) :=
  fin_new h rm np ⟨xs, upd_same, RVs.mono (ex_new (o := .lst l) rm np) l rl⟩
theorem d_lst {es : List Expr} {cs : CA} (h : SA X E es cs) : SE X E (.List es pos) (cLst cs) :=
  PE.imp (pe_lst h) fun σ H Q h => tC.bind h fun σm l m ρ H xs rm rs rl q => by
    cases z : fits l.length with
    | false => rw [z] at q; exact q.elim
    | true =>
      rw [z] at q
      exact ⟨by rw [← RVs.len rl]; exact fits_iff.mp z, fun p np => fin_newL q rm rl np⟩
end
end Mini

set_option Elab.async false
set_option linter.all false
set_option maxRecDepth 100000
/-! mini: operators, built-in functions, subscripts, slices, methods by values. -/
namespace Mini
open PySem PySem.Spec PyProof.Rows L2

section
variable {K : PySem.W.Frag} {E : XK} {ρ : Nat → Addr} {m : M} {H : Hp} {n : Nat}
/-! ### shapes -/
theorem rv_int {i : Int} {x : V} (h : RV K ρ n H (.int i) x) : x = .int i := by simpa only [RV] using h
theorem rv_bl {i : Bool} {x : V} (h : RV K ρ n H (.bl i) x) : x = .bl i := by simpa only [RV] using h
theorem rv_str {i : Str} {x : V} (h : RV K ρ n H (.str i) x) : x = .str i := by simpa only [RV] using h
theorem rv_rep {d : PyData} {x : V} (h : RV K ρ n H (.rep d) x) : x = .str d.shown := by simpa only [RV] using h
theorem rv_non {x : V} (h : RV K ρ n H .non x) : x = .non := by simpa only [RV] using h
theorem rv_tup {l : List MV} {x : V} (h : RV K ρ n H (.tup l) x) : ∃ p xs, x = .ref p ∧ SqT K H p xs ∧ RVs K ρ n H l xs := by simpa only [RV] using h
theorem rv_ref {a : Nat} {x : V} (h : RV K ρ n H (.ref a) x) : a < n ∧ x = .ref (ρ a) := by simpa only [RV] using h
theorem rv_glo {s : Str} {x : V} (h : RV K ρ n H (.glo s) x) : x = .ref (He.ga K s) := by simpa only [RV] using h
theorem mk_int {i : Int} : RV K ρ n H (.int i) (.int i) := by simp only [RV]
theorem mk_bl {i : Bool} : RV K ρ n H (.bl i) (.bl i) := by simp only [RV]
theorem mk_str {i : Str} : RV K ρ n H (.str i) (.str i) := by simp only [RV]
theorem mk_rep {i : PyData} : RV K ρ n H (.rep i) (.str i.shown) := by simp only [RV]
theorem mk_non : RV K ρ n H .non .non := by simp only [RV]
theorem mk_tup {l : List MV} {p : Addr} {xs : List V} (h : SqT K H p xs) (r : RVs K ρ n H l xs) : RV K ρ n H (.tup l) (.ref p) := by simp only [RV]; exact ⟨p, xs, rfl, h, r⟩
theorem rvs_nil {xs : List V} (h : RVs K ρ n H [] xs) : xs = [] := by simpa only [RVs] using h
theorem rvs_cons {v : MV} {l : List MV} {xs : List V} (h : RVs K ρ n H (v :: l) xs) : ∃ y ys, xs = y :: ys ∧ RV K ρ n H v y ∧ RVs K ρ n H l ys := by simpa only [RVs] using h
theorem mk_nil : RVs K ρ n H [] [] := by simp only [RVs]
theorem mk_cons {v : MV} {l : List MV} {y : V} {ys : List V} (h : RV K ρ n H v y) (t : RVs K ρ n H l ys) : RVs K ρ n H (v :: l) (y :: ys) := by simp only [RVs]; exact ⟨y, ys, rfl, h, t⟩
theorem RVs.app : ∀ {l k : List MV} {xs ys : List V}, RVs K ρ n H l xs → RVs K ρ n H k ys → RVs K ρ n H (l ++ k) (xs ++ ys)
  | [], k, xs, ys, h, r => by rw [rvs_nil h]; exact r
  | v :: l, k, xs, ys, h, r => by
    obtain ⟨y, zs, rfl, a, b⟩ := rvs_cons h
    exact mk_cons a (RVs.app b r)
theorem RVs.take : ∀ (j : Nat) {l : List MV} {xs : List V}, RVs K ρ n H l xs → RVs K ρ n H (l.take j) (xs.take j)
  | 0, l, xs, h => by simp only [List.take_zero]; exact mk_nil
  | j + 1, [], xs, h => by rw [rvs_nil h]; exact mk_nil
  | j + 1, v :: l, xs, h => by
    obtain ⟨y, zs, rfl, a, b⟩ := rvs_cons h
    exact mk_cons a (RVs.take j b)
theorem RVs.drop : ∀ (j : Nat) {l : List MV} {xs : List V}, RVs K ρ n H l xs → RVs K ρ n H (l.drop j) (xs.drop j)
  | 0, l, xs, h => h
  | j + 1, [], xs, h => by rw [rvs_nil h]; exact mk_nil
  | j + 1, v :: l, xs, h => by
    obtain ⟨y, zs, rfl, a, b⟩ := rvs_cons h
    exact RVs.drop j b
theorem RVs.get : ∀ {l : List MV} {xs : List V} {i : Nat} {v : MV}, RVs K ρ n H l xs → at? l i = some v → ∃ x, xs[i]? = some x ∧ RV K ρ n H v x
  | [], _, _, _, _, e => by simp [at?] at e
  | v :: l, xs, 0, w, h, e => by
    obtain ⟨y, zs, rfl, a, b⟩ := rvs_cons h
    simp only [at?, Option.some.injEq] at e
    subst e
    exact ⟨y, rfl, a⟩
  | v :: l, xs, i + 1, w, h, e => by
    obtain ⟨y, zs, rfl, a, b⟩ := rvs_cons h
    obtain ⟨x, e1, r⟩ := RVs.get (i := i) b e
    exact ⟨x, e1, r⟩
theorem RVs.set {w : MV} {z : V} (r : RV K ρ n H w z) : ∀ {l : List MV} {xs : List V} (i : Nat), RVs K ρ n H l xs → RVs K ρ n H (setN w l i) (xs.set i z)
  | [], xs, i, h => by rw [rvs_nil h]; simp only [setN, List.set_nil]; exact mk_nil
  | v :: l, xs, 0, h => by
    obtain ⟨y, zs, rfl, a, b⟩ := rvs_cons h
    exact mk_cons r b
  | v :: l, xs, i + 1, h => by
    obtain ⟨y, zs, rfl, a, b⟩ := rvs_cons h
    exact mk_cons a (RVs.set r i b)
theorem RVs.erase : ∀ {l : List MV} {xs : List V} (i : Nat), RVs K ρ n H l xs → RVs K ρ n H (l.eraseIdx i) (xs.eraseIdx i)
  | [], xs, i, h => by rw [rvs_nil h]; simp only [List.eraseIdx_nil]; exact mk_nil
  | v :: l, xs, 0, h => by
    obtain ⟨y, zs, rfl, a, b⟩ := rvs_cons h
    exact b
  | v :: l, xs, i + 1, h => by
    obtain ⟨y, zs, rfl, a, b⟩ := rvs_cons h
    exact mk_cons a (RVs.erase i b)
theorem RVs.rep {l : List MV} {xs : List V} (h : RVs K ρ n H l xs) : ∀ k : Nat, RVs K ρ n H (List.replicate k l).flatten (List.replicate k xs).flatten
  | 0 => mk_nil
  | k + 1 => by
    rw [List.replicate_succ, List.replicate_succ, List.flatten_cons, List.flatten_cons]
    exact RVs.app h (RVs.rep h k)
theorem RVs.dropLast : ∀ {l : List MV} {xs : List V}, RVs K ρ n H l xs → RVs K ρ n H l.dropLast xs.dropLast
  | [], xs, h => by rw [rvs_nil h]; exact mk_nil
  | [v], xs, h => by
    obtain ⟨y, zs, rfl, a, b⟩ := rvs_cons h
    rw [rvs_nil b]; exact mk_nil
  | v :: w :: l, xs, h => by
    obtain ⟨y, zs, rfl, a, b⟩ := rvs_cons h
    obtain ⟨y2, zs2, rfl, a2, b2⟩ := rvs_cons b
    exact mk_cons a (RVs.dropLast (mk_cons a2 b2))
/-- what seqM finds is to be read -/
theorem seq_read (rm : RM K ρ m H) {v : MV} {x : V} (rv : RV K ρ m.n H v x) {l : List MV} (h : seqM m v = some l) : ∃ p xs, x = .ref p ∧ (SqL K H p xs ∨ SqT K H p xs) ∧ RVs K ρ m.n H l xs := by
  cases v with
  | tup k =>
    obtain ⟨p, xs, rfl, ht, rl⟩ := rv_tup rv
    simp only [seqM, Option.some.injEq] at h
    subst h
    exact ⟨p, xs, rfl, .inr ht, rl⟩
  | ref a =>
    obtain ⟨ha, rfl⟩ := rv_ref rv
    simp only [seqM] at h
    cases g : m.get a with
    | none => rw [g] at h; cases h
    | some o =>
      rw [g] at h
      have ro := rm.get g
      cases o with
      | lst k => cases h; obtain ⟨xs, e, r⟩ := ro; exact ⟨_, xs, rfl, .inl (SqL.of e), r⟩
      | frz k => cases h; obtain ⟨xs, e, r⟩ := ro; exact ⟨_, xs, rfl, .inl e.sq, r⟩
      | hole => cases h
      | dct k => cases h
  | _ => cases h
/-- a list that may be written -/
theorem lst_read (rm : RM K ρ m H) {a : Nat} {x : V} (rv : RV K ρ m.n H (.ref a) x) {l : List MV} (h : m.get a = some (.lst l)) : ∃ xs, x = .ref (ρ a) ∧ a < m.n ∧ H (ρ a) = some (.lst xs) ∧ RVs K ρ m.n H l xs := by
  obtain ⟨ha, rfl⟩ := rv_ref rv
  obtain ⟨xs, e, r⟩ := rm.get h
  exact ⟨xs, rfl, ha, e, r⟩
theorem lstM_read (rm : RM K ρ m H) {v : MV} {x : V} (rv : RV K ρ m.n H v x) {l : List MV} (h : lstM m v = some l) : ∃ p xs, x = .ref p ∧ H p = some (.lst xs) ∧ RVs K ρ m.n H l xs := by
  cases v with
  | ref a =>
    simp only [lstM] at h
    cases g : m.get a with
    | none => rw [g] at h; cases h
    | some o =>
      rw [g] at h
      cases o with
      | lst k =>
        cases h
        obtain ⟨xs, e, ha, hx, r⟩ := lst_read rm rv g
        exact ⟨_, xs, e, hx, r⟩
      | _ => cases h
  | _ => cases h
/-- a list is rewritten -/
theorem lst_write (rm : RM K ρ m H) {a : Nat} {l l' : List MV} {xs xs' : List V} (g : m.get a = some (.lst l)) (h : H (ρ a) = some (.lst xs)) (r : RVs K ρ m.n H l' xs') :
    RM K ρ (m.put a (.lst l')) (upd H (ρ a) (.lst xs')) ∧ Ex ρ m H ρ (m.put a (.lst l')) (upd H (ρ a) (.lst xs')) := by
  have e := ex_set (o := .lst l') (ho := .lst xs') rm g h
  exact ⟨rm.set g rfl rfl h fun _ _ _ => ⟨xs', upd_same, RVs.mono e l' r⟩, e⟩

/-! ### plain data -/
theorem mapO_dp {g : MV → Option PyData} (hg : ∀ v d x, g v = some d → RV K ρ n H v x → Dp K H x d) : ∀ {l : List MV} {ds : List PyData} {xs : List V}, mapO g l = some ds → RVs K ρ n H l xs → DpAll K H xs ds
  | [], ds, xs, h, r => by
    simp only [mapO, Option.some.injEq] at h
    subst h
    rw [rvs_nil r]; exact .nil
  | v :: l, ds, xs, h, r => by
    obtain ⟨y, ys, rfl, a, b⟩ := rvs_cons r
    simp only [mapO] at h
    cases e : g v with
    | none => rw [e] at h; cases h
    | some d =>
      rw [e] at h
      cases e2 : mapO g l with
      | none => rw [e2] at h; cases h
      | some ds' =>
        rw [e2] at h
        cases h
        exact .cons (hg v d y e a) (mapO_dp hg e2 b)
theorem toD_dp (rm : RM K ρ m H) : ∀ (f : Nat) {v : MV} {d : PyData} {x : V}, toD m f v = some d → RV K ρ m.n H v x → Dp K H x d
  | 0, v, d, x, h, _ => by simp [toD] at h
  | f + 1, v, d, x, h, r => by
    have ih := fun v d x => toD_dp rm f (v := v) (d := d) (x := x)
    cases v with
    | non => simp only [toD, Option.some.injEq] at h; subst h; rw [rv_non r]; exact .non
    | bl b => simp only [toD, Option.some.injEq] at h; subst h; rw [rv_bl r]; exact .bl _
    | int i => simp only [toD, Option.some.injEq] at h; subst h; rw [rv_int r]; exact .int _
    | str i => simp only [toD, Option.some.injEq] at h; subst h; rw [rv_str r]; exact .str _
    | rep i => simp only [toD, Option.some.injEq] at h; subst h; rw [rv_rep r]; exact .str _
    | glo i => simp [toD] at h
    | tup l =>
      obtain ⟨p, xs, rfl, ht, rl⟩ := rv_tup r
      simp only [toD] at h
      cases e : mapO (toD m f) l with
      | none => rw [e] at h; cases h
      | some ds => rw [e] at h; cases h; exact .tup ht (mapO_dp ih e rl)
    | ref a =>
      obtain ⟨ha, rfl⟩ := rv_ref r
      simp only [toD] at h
      cases g : m.get a with
      | none => rw [g] at h; cases h
      | some o =>
        rw [g] at h
        cases o with
        | lst l =>
          obtain ⟨xs, e, rl⟩ := rm.get g
          simp only at h
          cases e2 : mapO (toD m f) l with
          | none => rw [e2] at h; cases h
          | some ds => rw [e2] at h; cases h; exact .lst (SqL.of e) (mapO_dp ih e2 rl)
        | _ => cases h
end

section
variable {X : Cx} {E : XK} {CX : CXT} {k : Nat}
/-- where a body stands -/
structure Cv (CX : CXT) (X : Cx) (E : XK) (k : Nat) : Prop where
  calm : X.calm = true
  room : Room k X.A
  gd : X.A.guards = some []
  pass : Passes CX X E
theorem Cv.u1 (c : Cv CX X E k) : X.A.units < cLine := by have := c.room.un; omega
theorem Cv.u64 (c : Cv CX X E k) : X.A.units + 64 < cLine := by have := c.room.un; omega
theorem Cv.u65 (c : Cv CX X E k) : X.A.units + 65 < cLine := by have := c.room.un; omega

/-! ### ints -/
theorem om_add : OpM X E (binaryOp .Add) oAdd := OpM.of (op_add.or (op_add_str.or (op_catA.or op_cat))) fun ρ m H v w x y Q rm rv rw' q => by
  unfold oAdd at q
  split at q
  · rename_i i j
    exact .inl ⟨i, j, rv_int rv, rv_int rw', q.ok (R := RVl X.K) rm mk_int⟩
  · rename_i a b
    cases z : fits (a.length + b.length) with
    | false => rw [z] at q; exact q.elim
    | true =>
      rw [z] at q
      exact .inr (.inl ⟨a, b, rv_str rv, rv_str rw', fits_iff.mp z, q.ok (R := RVl X.K) rm mk_str⟩)
  · rename_i l k'
    obtain ⟨p, xs, rfl, hp, rl⟩ := rv_tup rv
    obtain ⟨p', ys, rfl, hp', rk⟩ := rv_tup rw'
    cases z : fits (l.length + k'.length) with
    | false => rw [z] at q; exact q.elim
    | true =>
      rw [z] at q
      have nil_of : ∀ {l : List MV}, RVs X.K ρ m.n H l [] → l = [] := fun {l} r => by
        cases l with
        | nil => rfl
        | cons v l => obtain ⟨_, _, e, _⟩ := rvs_cons r; cases e
      refine .inr (.inr (.inl ⟨p, p', xs, ys, rfl, rfl, hp, hp', ?_, fun e => ?_, fun _ e => ?_, fun _ _ t nt => ?_⟩))
      · rw [← RVs.len rl, ← RVs.len rk]; exact fits_iff.mp z
      · subst e
        rw [nil_of rl] at q
        exact q.ok (R := RVl X.K) rm (mk_tup hp' rk)
      · subst e
        rw [nil_of rk, List.append_nil] at q
        exact q.ok (R := RVl X.K) rm (mk_tup hp rl)
      · obtain ⟨rm2, ex2⟩ := rm.beside (o := .tup (xs ++ ys)) nt
        exact (Fin.base q ex2).ok (R := RVl X.K) rm2 (mk_tup (SqT.of upd_same) (RVs.mono ex2 _ (RVs.app rl rk)))
  · rename_i a b
    cases g : m.get a with
    | none => rw [g] at q; exact q.elim
    | some o =>
      cases g2 : m.get b with
      | none => rw [g, g2] at q; cases o <;> exact q.elim
      | some o2 =>
        rw [g, g2] at q
        cases o <;> cases o2 <;> first | exact q.elim | skip
        rename_i l k'
        simp only at q
        obtain ⟨xs, rfl, _, hx, rl⟩ := lst_read rm rv g
        obtain ⟨ys, rfl, _, hy, rk⟩ := lst_read rm rw' g2
        cases z : fits (l.length + k'.length) with
        | false => rw [z] at q; exact q.elim
        | true =>
          rw [z] at q
          refine .inr (.inr (.inr ⟨_, _, xs, ys, rfl, rfl, hx, hy, ?_, fun p np => fin_newL q rm (RVs.app rl rk) np⟩))
          rw [← RVs.len rl, ← RVs.len rk]; exact fits_iff.mp z
  · exact q.elim
theorem om_sub : OpM X E (binaryOp .Sub) oSub := OpM.of op_sub fun ρ m H v w x y Q rm rv rw' q => by
  unfold oSub at q
  split at q
  · exact ⟨_, _, rv_int rv, rv_int rw', q.ok (R := RVl X.K) rm mk_int⟩
  · exact q.elim
theorem small64_iff {i : Int} : small64 i = true → -(2 ^ 64) < i ∧ i < 2 ^ 64 := fun h => by
  unfold small64 at h
  rw [blt_iff] at h
  have h2 := of_decide_eq_true h
  have e : (2 : Int) ^ 64 = 18446744073709551616 := by decide
  rw [e]
  omega
theorem posInt_iff {i : Int} : posInt i = true → 0 < i := fun h => by
  unfold posInt at h
  split at h
  · rename_i n; show (0 : Int) < ((n + 1 : Nat) : Int); omega
  · cases h
theorem om_mul : OpM X E (binaryOp .Mult) oMul := OpM.of (op_mul.or op_rep) fun ρ m H v w x y Q rm rv rw' q => by
  unfold oMul at q
  split at q
  · rename_i i j
    cases z : (small64 i || small64 j) with
    | false => rw [z] at q; exact q.elim
    | true =>
      rw [z] at q
      refine .inl ⟨i, j, rv_int rv, rv_int rw', ?_, q.ok (R := RVl X.K) rm mk_int⟩
      rcases Bool.or_eq_true_iff.mp z with h | h
      · exact .inl (small64_iff h)
      · exact .inr (small64_iff h)
  · rename_i a k'
    cases g : m.get a with
    | none => rw [g] at q; exact q.elim
    | some o =>
      rw [g] at q
      cases o <;> first | exact q.elim | skip
      rename_i l
      simp only at q
      cases z : (fits (l.length * k'.toNat) && small64 (k' + k')) with
      | false => rw [z] at q; exact q.elim
      | true =>
        rw [z] at q
        obtain ⟨z1, z2⟩ := Bool.and_eq_true_iff.mp z
        obtain ⟨xs, rfl, _, hx, rl⟩ := lst_read rm rv g
        have h2 := small64_iff z2
        have e64 : (2 : Int) ^ 64 = 18446744073709551616 := by decide
        have e63 : (2 : Int) ^ 63 = 9223372036854775808 := by decide
        refine .inr ⟨_, k', xs, rfl, rv_int rw', hx, by omega, by omega, ?_, fun p np => fin_newL q rm (RVs.rep rl _) np⟩
        rw [← RVs.len rl]; exact fits_iff.mp z1
  · exact q.elim
theorem div_ok {j : Int} (z : (posInt j && j.toNat.blt 1073741824) = true) : CDiv j j ∧ 0 < j := by
  obtain ⟨z1, z2⟩ := Bool.and_eq_true_iff.mp z
  have h1 := posInt_iff z1
  rw [blt_iff] at z2
  have h2 := of_decide_eq_true z2
  exact ⟨⟨h1, by omega⟩, h1⟩
theorem om_div : OpM X E (binaryOp .FloorDiv) oDiv := OpM.of op_fdiv fun ρ m H v w x y Q rm rv rw' q => by
  unfold oDiv at q
  split at q
  · rename_i i j
    cases z : (posInt j && j.toNat.blt 1073741824) with
    | false => rw [z] at q; exact q.elim
    | true => rw [z] at q; exact ⟨i, j, rv_int rv, rv_int rw', (div_ok z).1, q.ok (R := RVl X.K) rm mk_int⟩
  · exact q.elim
theorem om_mod : OpM X E (binaryOp .Mod) oMod := OpM.of op_mod fun ρ m H v w x y Q rm rv rw' q => by
  unfold oMod at q
  split at q
  · rename_i i j
    cases z : posInt j with
    | false => rw [z] at q; exact q.elim
    | true => rw [z] at q; exact ⟨i, j, rv_int rv, rv_int rw', posInt_iff z, q.ok (R := RVl X.K) rm mk_int⟩
  · exact q.elim
theorem om_pow : OpM X E (binaryOp .Pow) oPow := OpM.of op_pow fun ρ m H v w x y Q rm rv rw' q => by
  unfold oPow at q
  split at q
  · rename_i i j
    cases z : (j.ble 1000000 && small64 i) with
    | false => rw [z] at q; exact q.elim
    | true =>
      rw [z] at q
      obtain ⟨z1, z2⟩ := Bool.and_eq_true_iff.mp z
      have h1 := Nat.ble_eq.mp z1
      have e64 : (2 : Int) ^ 64 = 18446744073709551616 := by decide
      refine ⟨i, Int.ofNat j, rv_int rv, rv_int rw', ⟨Int.natCast_nonneg _, ?_, ?_⟩, q.ok (R := RVl X.K) rm mk_int⟩
      · show (j : Int) ≤ 1000000; omega
      · unfold small64 at z2
        rw [blt_iff] at z2
        have := of_decide_eq_true z2
        have e : (2 : Nat) ^ 64 = 18446744073709551616 := by decide
        omega
  · exact q.elim
theorem d_neg {a : Expr} {pos : Pos} {ca : CE} (ha : SE X E a ca) : SE X E (.UnaryOp .USub a pos) (cUn uNeg ca) :=
  PE.imp (pe_un un_neg ha) fun σ H Q h => tC.bind h fun σm v m ρ H x rm rs rv q => by
    unfold uNeg at q
    split at q
    · exact ⟨_, rv_int rv, q.ok (R := RVl X.K) rm mk_int⟩
    · exact q.elim

/-! ### comparisons -/
theorem om_cmpI {f : Value → Value → Sem Value} {p : Int → Int → Bool} (h : OpR X f (rI0 fun i j => .bl (p i j))) : OpM X E f (oCmpI p) := OpM.of h fun ρ m H v w x y Q rm rv rw' q => by
  unfold oCmpI at q
  split at q
  · exact ⟨_, _, rv_int rv, rv_int rw', q.ok (R := RVl X.K) rm mk_bl⟩
  · exact q.elim
theorem om_lt : OpM X E (compareOp .Lt) oLt := om_cmpI op_lt
theorem om_le : OpM X E (compareOp .LtE) oLe := om_cmpI op_le
theorem om_gt : OpM X E (compareOp .Gt) oGt := om_cmpI op_gt
theorem om_ge : OpM X E (compareOp .GtE) oGe := om_cmpI op_ge
/-- what eqM tells is what == finds, flat or as data -/
theorem eqM_read {ρ : Nat → Addr} {m : M} {H : Hp} {v w : MV} {x y : V} {r : Bool} (rm : RM X.K ρ m H) (rv : RV X.K ρ m.n H v x) (rw' : RV X.K ρ m.n H w y) (h : eqM m v w = some r) :
    (scal x y = true ∧ decide (x = y) = r) ∨ ∃ d e, Dp X.K H x d ∧ Dp X.K H y e ∧ SeqAt.shaped d = true ∧ SeqAt.shaped e = true ∧ PyData.eqv d e = r := by
  have slow : ∀ v w x y, RV X.K ρ m.n H v x → RV X.K ρ m.n H w y → (match toD m deepest v, toD m deepest w with
    | some d, some e => bif SeqAt.shaped d && SeqAt.shaped e then some (PyData.eqv d e) else none
    | _, _ => none) = some r → ∃ d e, Dp X.K H x d ∧ Dp X.K H y e ∧ SeqAt.shaped d = true ∧ SeqAt.shaped e = true ∧ PyData.eqv d e = r := fun v w x y rv rw' h => by
    cases e1 : toD m deepest v with
    | none => rw [e1] at h; cases h
    | some d =>
      cases e2 : toD m deepest w with
      | none => rw [e1, e2] at h; cases h
      | some e =>
        rw [e1, e2] at h
        simp only at h
        cases z : (SeqAt.shaped d && SeqAt.shaped e) with
        | false => rw [z] at h; cases h
        | true =>
          rw [z] at h
          obtain ⟨z1, z2⟩ := Bool.and_eq_true_iff.mp z
          exact ⟨d, e, toD_dp rm _ e1 rv, toD_dp rm _ e2 rw', z1, z2, Option.some.inj h⟩
  unfold eqM at h
  split at h
  · cases h; rw [rv_int rv, rv_int rw']; left; exact ⟨rfl, by simp⟩
  · cases h; rw [rv_str rv, rv_str rw']; left; exact ⟨rfl, by rw [strEq_dec]; simp⟩
  · rename_i d e
    rw [rv_rep rv, rv_rep rw']; left
    refine ⟨rfl, ?_⟩
    simp only [Option.some.injEq] at h
    rw [← h]
    cases z : datEq d e with
    | true => rw [datEq_eq z]; simp
    | false => rw [cond_false, strEq_dec]; simp
  · cases h; rw [rv_non rv, rv_non rw']; left; exact ⟨rfl, by simp⟩
  · cases h; rw [rv_non rv, rv_int rw']; left; exact ⟨rfl, by simp⟩
  · cases h; rw [rv_int rv, rv_non rw']; left; exact ⟨rfl, by simp⟩
  · cases h; rw [rv_non rv, rv_bl rw']; left; exact ⟨rfl, by simp⟩
  · cases h; rw [rv_bl rv, rv_non rw']; left; exact ⟨rfl, by simp⟩
  · cases h; rw [rv_non rv, rv_str rw']; left; exact ⟨rfl, by simp⟩
  · cases h; rw [rv_str rv, rv_non rw']; left; exact ⟨rfl, by simp⟩
  · cases h; rw [rv_bl rv, rv_bl rw']; left; refine ⟨rfl, ?_⟩; rw [Bool.eq_iff_iff]; simp
  · cases h; rw [rv_int rv, rv_str rw']; left; exact ⟨rfl, by simp⟩
  · cases h; rw [rv_str rv, rv_int rw']; left; exact ⟨rfl, by simp⟩
  · cases h; rw [rv_bl rv, rv_str rw']; left; exact ⟨rfl, by simp⟩
  · cases h; rw [rv_str rv, rv_bl rw']; left; exact ⟨rfl, by simp⟩
  · exact .inr (slow _ _ x y rv rw' h)
theorem om_eq (c : Cv CX X E k) : OpM X E (compareOp .Eq) oEq := OpM.of (op_eq.or (op_eqD c.u64)) fun ρ m H v w x y Q rm rv rw' q => by
  unfold oEq at q
  cases z : eqM m v w with
  | none => rw [z] at q; exact q.elim
  | some r =>
    rw [z] at q
    rcases eqM_read rm rv rw' z with ⟨s, e⟩ | ⟨d, e, h1, h2, h3, h4, h5⟩
    · exact .inl ⟨s, by rw [e]; exact q.ok (R := RVl X.K) rm mk_bl⟩
    · exact .inr ⟨d, e, h1, h2, h3, h4, by rw [h5]; exact q.ok (R := RVl X.K) rm mk_bl⟩
theorem om_ne (c : Cv CX X E k) : OpM X E (compareOp .NotEq) oNe := OpM.of (op_ne.or (op_neD c.u64)) fun ρ m H v w x y Q rm rv rw' q => by
  unfold oNe at q
  cases z : eqM m v w with
  | none => rw [z] at q; exact q.elim
  | some r =>
    rw [z] at q
    rcases eqM_read rm rv rw' z with ⟨s, e⟩ | ⟨d, e, h1, h2, h3, h4, h5⟩
    · exact .inl ⟨s, by rw [e]; exact q.ok (R := RVl X.K) rm mk_bl⟩
    · exact .inr ⟨d, e, h1, h2, h3, h4, by rw [h5]; exact q.ok (R := RVl X.K) rm mk_bl⟩
theorem isNon_dec {ρ : Nat → Addr} {n : Nat} {H : Hp} {v : MV} {x : V} (h : RV X.K ρ n H v x) : isNon v = decide (x = .non) := by
  cases v with
  | non => rw [rv_non h]; rfl
  | bl b => rw [rv_bl h]; rfl
  | int b => rw [rv_int h]; rfl
  | str b => rw [rv_str h]; rfl
  | rep b => rw [rv_rep h]; rfl
  | glo b => rw [rv_glo h]; rfl
  | ref b => rw [(rv_ref h).2]; rfl
  | tup l => obtain ⟨p, xs, rfl, _⟩ := rv_tup h; rfl
theorem om_isN : OpM X E (compareOp .Is) oIsN := OpM.of op_isN fun ρ m H v w x y Q rm rv rw' q => by
  unfold oIsN at q
  split at q
  · exact ⟨rv_non rw', by rw [← isNon_dec rv]; exact q.ok (R := RVl X.K) rm mk_bl⟩
  · exact q.elim
theorem om_notN : OpM X E (compareOp .IsNot) oNotN := OpM.of op_notN fun ρ m H v w x y Q rm rv rw' q => by
  unfold oNotN at q
  split at q
  · exact ⟨rv_non rw', by rw [← isNon_dec rv]; exact q.ok (R := RVl X.K) rm mk_bl⟩
  · exact q.elim
theorem flat_rv {ρ : Nat → Addr} {n : Nat} {H : Hp} {v : MV} {x : V} (h : RV X.K ρ n H v x) (f : isFlat v = true) : flatV x = true := by
  cases v with
  | non => rw [rv_non h]; rfl
  | bl b => rw [rv_bl h]; rfl
  | int b => rw [rv_int h]; rfl
  | str b => rw [rv_str h]; rfl
  | _ => cases f
theorem eqFlat_rv {ρ : Nat → Addr} {n : Nat} {H : Hp} {v w : MV} {x y : V} {r : Bool} (hv : RV X.K ρ n H v x) (hw : RV X.K ρ n H w y) (h : eqFlat v w = some r) : eqV x y = r := by
  unfold eqFlat at h
  split at h <;> first | (cases h; done) | skip
  · cases h; rw [rv_non hv, rv_non hw]; rfl
  · cases h; rw [rv_non hv, rv_bl hw]; rfl
  · cases h; rw [rv_non hv, rv_int hw]; rfl
  · cases h; rw [rv_non hv, rv_str hw]; rfl
  · cases h; rw [rv_bl hv, rv_non hw]; rfl
  · cases h; rw [rv_int hv, rv_non hw]; rfl
  · cases h; rw [rv_str hv, rv_non hw]; rfl
  · cases h; rw [rv_bl hv, rv_bl hw]; rfl
  · cases h; rw [rv_int hv, rv_int hw]; rfl
  · cases h; rw [rv_bl hv, rv_int hw]; rfl
  · cases h; rw [rv_int hv, rv_bl hw]; rfl
  · cases h; rw [rv_str hv, rv_str hw]
    rename_i a b
    show (a == b) = strEq a b
    rw [strEq_dec, Bool.eq_iff_iff]; simp
  · cases h; rw [rv_int hv, rv_str hw]; rfl
  · cases h; rw [rv_str hv, rv_int hw]; rfl
  · cases h; rw [rv_bl hv, rv_str hw]; rfl
  · cases h; rw [rv_str hv, rv_bl hw]; rfl
theorem inFlat_rv {ρ : Nat → Addr} {n : Nat} {H : Hp} {v : MV} {x : V} (hv : RV X.K ρ n H v x) : ∀ {l : List MV} {ys : List V} {r : Bool}, RVs X.K ρ n H l ys → l.all isFlat = true → inFlat v l = some r → inV x ys = r ∧ ys.all flatV = true
  | [], ys, r, h, _, e => by
    rw [rvs_nil h]
    simp only [inFlat, Option.some.injEq] at e
    exact ⟨e, rfl⟩
  | w :: l, ys, r, h, f, e => by
    obtain ⟨y, zs, rfl, a, b⟩ := rvs_cons h
    rw [List.all_cons, Bool.and_eq_true] at f
    simp only [inFlat] at e
    cases e1 : eqFlat w v with
    | none => rw [e1] at e; cases e
    | some r1 =>
      cases e2 : inFlat v l with
      | none => rw [e1, e2] at e; cases e
      | some r2 =>
        rw [e1, e2] at e
        cases e
        obtain ⟨h1, h2⟩ := inFlat_rv hv b f.2 e2
        refine ⟨?_, by rw [List.all_cons, flat_rv a f.1, h2]; rfl⟩
        show (List.any (y :: zs) fun z => eqV z x) = _
        rw [List.any_cons, eqFlat_rv a hv e1]
        show (r1 || inV x zs) = _
        rw [h1]
theorem in_ok {neg : Bool} {ρ : Nat → Addr} {m : M} {H : Hp} {v w : MV} {x y : V} {Q : VK} (rm : RM X.K ρ m H) (rv : RV X.K ρ m.n H v x) (rw' : RV X.K ρ m.n H w y) (q : Fin X.K E (RVl X.K) ρ m H (oIn neg v w m) Q) : rIn X.K neg x y H Q := by
  unfold oIn at q
  cases z : seqM m w with
  | none => rw [z] at q; exact q.elim
  | some l =>
    rw [z] at q
    simp only at q
    cases f : (isFlat v && l.all isFlat) with
    | false => rw [f] at q; exact q.elim
    | true =>
      rw [f] at q
      obtain ⟨f1, f2⟩ := Bool.and_eq_true_iff.mp f
      obtain ⟨p, xs, rfl, hs, rl⟩ := seq_read rm rw' z
      cases e : inFlat v l with
      | none => rw [e] at q; exact q.elim
      | some r =>
        rw [e] at q
        obtain ⟨h1, h2⟩ := inFlat_rv rv rl f2 e
        refine ⟨p, xs, rfl, hs, flat_rv rv f1, h2, ?_⟩
        rw [h1]
        have q2 : Fin X.K E (RVl X.K) ρ m H (.ok (.bl (bif neg then !r else r)) m) Q := q
        have q3 := q2.ok (R := RVl X.K) rm mk_bl
        cases neg <;> exact q3
theorem om_in : OpM X E (compareOp .In) (oIn false) := OpM.of op_in_seq fun ρ m H v w x y Q rm rv rw' q => in_ok rm rv rw' q
theorem om_notIn : OpM X E (compareOp .NotIn) (oIn true) := OpM.of op_notIn_seq fun ρ m H v w x y Q rm rv rw' q => in_ok rm rv rw' q
end
end Mini

set_option Elab.async false
set_option linter.all false
set_option maxRecDepth 100000
/-! mini: subscripts, slices, built-in functions, methods. -/
namespace Mini
open PySem PySem.Spec PyProof.Rows L2

theorem bb_len : bootBuiltins "len" = some (.builtin "len") := by decide +kernel
theorem bb_abs : bootBuiltins "abs" = some (.builtin "abs") := by decide +kernel
theorem bb_max : bootBuiltins "max" = some (.builtin "max") := by decide +kernel
theorem bb_min : bootBuiltins "min" = some (.builtin "min") := by decide +kernel
theorem bb_sum : bootBuiltins "sum" = some (.builtin "sum") := by decide +kernel
theorem bb_all : bootBuiltins "all" = some (.builtin "all") := by decide +kernel
theorem bb_any : bootBuiltins "any" = some (.builtin "any") := by decide +kernel
theorem bb_divmod : bootBuiltins "divmod" = some (.builtin "divmod") := by decide +kernel
theorem bb_repr : bootBuiltins "repr" = some (.builtin "repr") := by decide +kernel
theorem bb_isinstance : bootBuiltins "isinstance" = some (.builtin "isinstance") := by decide +kernel
theorem bb_sorted : bootBuiltins "sorted" = some (.builtin "sorted") := by decide +kernel
theorem bb_int : bootBuiltins "int" = some (.type "int") := by decide +kernel
theorem bb_bool : bootBuiltins "bool" = some (.type "bool") := by decide +kernel
theorem bb_str : bootBuiltins "str" = some (.type "str") := by decide +kernel
theorem bb_list : bootBuiltins "list" = some (.type "list") := by decide +kernel
theorem bb_tuple : bootBuiltins "tuple" = some (.type "tuple") := by decide +kernel
theorem bb_dict : bootBuiltins "dict" = some (.type "dict") := by decide +kernel
theorem bb_set : bootBuiltins "set" = some (.type "set") := by decide +kernel

section
variable {X : Cx} {E : XK} {a b e : Expr} {pos : Pos} {CX : CXT} {k : Nat}
/-! ### subscripts, slices -/
theorem IxR.imp {r r' : R2} (h : IxR X r) (k : ∀ x y H Q, r' x y H Q → r x y H Q) : IxR X r' := fun v s pins st σ H x y vv u Q I rx ry q hs => h v s pins st σ H x y vv u Q I rx ry (k _ _ _ _ q) hs
theorem d_ix {ca cb : CE} (ha : SE X E a ca) (hb : SE X E b cb) (hs : PlainIx b) : SE X E (.Subscript a b pos) (cBin oIx ca cb) :=
  PE.imp (pe_ix ix_seq ha hb hs) fun σ H Q h => tC.two monoV h fun σm v w m ρ H x y rm rs rv rw' q => by
    unfold oIx at q
    split at q
    · rename_i i
      have ei := rv_int rw'
      split at q
      · rename_i z
        cases e1 : ixM z.length i with
        | none => rw [e1] at q; exact q.elim
        | some j =>
          rw [e1] at q
          simp only at q
          cases e2 : at? z.cps.toList j with
          | none => rw [e2] at q; exact q.elim
          | some c =>
            rw [e2] at q
            simp only at q
            cases e3 : fits z.length with
            | false => rw [e3] at q; exact q.elim
            | true =>
              rw [e3] at q
              rw [ixM_eq] at e1
              rw [at?_eq] at e2
              refine .inr (.inr ⟨z, i, c, rv_str rv, ei, fits_iff.mp e3, ?_, q.ok (R := RVl X.K) rm mk_str⟩)
              unfold atI
              have el : z.cps.toList.length = z.length := by show z.cps.toList.length = z.cps.size; simp
              rw [el, e1]; exact e2
      · rename_i hns
        cases e0 : seqM m v with
        | none => rw [e0] at q; exact q.elim
        | some l =>
          rw [e0] at q
          simp only at q
          obtain ⟨p, xs, rfl, hs, rl⟩ := seq_read rm rv e0
          cases e1 : ixM l.length i with
          | none => rw [e1] at q; exact q.elim
          | some j =>
            rw [e1] at q
            simp only at q
            cases e2 : at? l j with
            | none => rw [e2] at q; exact q.elim
            | some u =>
              rw [e2] at q
              obtain ⟨x, ex, rx⟩ := RVs.get rl e2
              rw [ixM_eq, RVs.len rl] at e1
              have ha : atI xs i = some x := by unfold atI; rw [e1]; exact ex
              rcases hs with hs | hs
              · exact .inl ⟨p, xs, i, x, rfl, ei, hs, ha, q.ok (R := RVl X.K) rm rx⟩
              · exact .inr (.inl ⟨p, xs, i, x, rfl, ei, hs, ha, q.ok (R := RVl X.K) rm rx⟩)
    · exact q.elim
abbrev SO (X : Cx) (E : XK) (e : Option Expr) (c : CO) : Prop := PO X e (tC X.K E (REq (Option Int)) c)
theorem o_none : SO X E none oNone := ⟨fun pins s σ H Q I ⟨ρ, σm, m, rm, rs, h⟩ => po_none.run pins s σ H Q I (h.ok (R := REq (Option Int)) rm rfl)⟩
theorem o_part {ca : CE} (ha : SE X E a ca) : SO X E (some a) (oPart ca) := ⟨fun pins s σ H Q I h => (po_some ha).run pins s σ H Q I (tC.bind h fun σm v m ρ H x rm rs rv q => by
  cases v <;> first | exact q.elim | skip
  exact ⟨_, rv_int rv, q.ok (R := REq (Option Int)) rm rfl⟩)⟩
theorem cut_rv {K : PySem.W.Frag} {ρ : Nat → Addr} {n : Nat} {H : Hp} {l : List MV} {xs : List V} (r : RVs K ρ n H l xs) (lo hi : Option Int) : RVs K ρ n H (cutM l lo hi) (cutV xs lo hi) := by
  unfold cutM cutV
  rw [RVs.len r]
  exact RVs.take _ (RVs.drop _ r)
theorem cut_whole {xs : List V} {lo hi : Option Int} (h : HT.sIx xs.length 0 lo = 0 ∧ HT.sIx xs.length xs.length hi = xs.length) : cutV xs lo hi = xs := by
  unfold cutV
  rw [h.1, h.2, List.drop_zero, Nat.sub_zero, List.take_length]
theorem cutM_whole {xs : List MV} {lo hi : Option Int} (h : HT.sIx xs.length 0 lo = 0 ∧ HT.sIx xs.length xs.length hi = xs.length) : cutM xs lo hi = xs := by
  unfold cutM
  rw [h.1, h.2, List.drop_zero, Nat.sub_zero, List.take_length]
theorem d_sl {ca : CE} {lo hi : Option Expr} {cl ch : CO} {p2 : Pos} (ha : SE X E a ca) (hl : SO X E lo cl) (hh : SO X E hi ch) : SE X E (.Subscript a (.Slice lo hi none p2) pos) (cSl ca cl ch) :=
  PE.imp (pe_slice (sl_list.or (sl_tupA.or sl_str)) ha hl hh) fun σ H Q h => by
    refine tC.bind h fun σm v m ρ H x rm rs rv q => ⟨ρ, σm, m, rm, rs, Fin.bind q fun l m2 ρ2 H2 l' ex2 rm2 rl2 q2 => ?_⟩
    cases (show l = l' from rl2)
    refine ⟨ρ2, σm, m2, rm2, rs.mono ex2, Fin.bind q2 fun u m3 ρ3 H3 u' ex3 rm3 ru3 q3 => ?_⟩
    cases (show u = u' from ru3)
    have rv3 := RV.mono (ex2.trans ex3) _ rv
    unfold slM at q3
    split at q3
    · rename_i z
      cases e3 : fits z.length with
      | false => rw [e3] at q3; exact q3.elim
      | true =>
        rw [e3] at q3
        exact .inr (.inr ⟨z, rv_str rv3, fits_iff.mp e3, q3.ok (R := RVl X.K) rm3 mk_str⟩)
    · rename_i it
      obtain ⟨p, xs, rfl, ht, rl⟩ := rv_tup rv3
      refine .inr (.inl ⟨p, xs, rfl, ht, fun wh => ?_, fun _ p' np => ?_⟩)
      · have wh' := wh
        rw [← RVs.len rl] at wh'
        rw [cutM_whole wh'] at q3
        exact q3.ok (R := RVl X.K) rm3 (mk_tup ht rl)
      · obtain ⟨rm4, ex4⟩ := rm3.beside (o := .tup (cutV xs l u)) np
        exact (Fin.base q3 ex4).ok (R := RVl X.K) rm4 (mk_tup (SqT.of upd_same) (RVs.mono ex4 _ (cut_rv rl l u)))
    · rename_i ad
      cases g : m3.get ad with
      | none => rw [g] at q3; exact q3.elim
      | some o =>
        rw [g] at q3
        cases o <;> first | exact q3.elim | skip
        rename_i it
        obtain ⟨xs, rfl, _, hx, rl⟩ := lst_read rm3 rv3 g
        exact .inl ⟨_, xs, rfl, SqL.of hx, fun p np => fin_newL q3 rm3 (cut_rv rl l u) np⟩
    · exact q3.elim

/-! ### built-in functions -/
def ApM (X : Cx) (E : XK) (f : Value) (fm : Ap) : Prop :=
  CallR X f fun xs H Q => ∃ (ρ : Nat → Addr) (m : M) (l : List MV), RM X.K ρ m H ∧ RVs X.K ρ m.n H l xs ∧ Fin X.K E (RVl X.K) ρ m H (fm l m) Q
theorem ApM.of {f : Value} {fm : Ap} {r : List V → Hp → VK → Prop} (h : CallR X f r)
    (k : ∀ (ρ : Nat → Addr) (m : M) (H : Hp) (l : List MV) (xs : List V) (Q : VK), RM X.K ρ m H → RVs X.K ρ m.n H l xs → Fin X.K E (RVl X.K) ρ m H (fm l m) Q → r xs H Q) : ApM X E f fm :=
  CallR.imp h fun xs H Q ⟨ρ, m, l, rm, rl, q⟩ => k ρ m H l xs Q rm rl q
/-- a built-in's name -/
structure Bn (X : Cx) (x : Str) : Prop extends Gn X x where
  free : X.mg x = none
theorem d_blt {id : String} {fm : Ap} {ca : CA} {x : Str} {p : Pos} {es : List Expr} (hc : ApM X E (.builtin id) fm) (g : Bn X x) (hv : bootBuiltins x = some (.builtin id)) (ha : SA X E (e :: es) ca)
    (he : starEach (e :: es) X.env = (false, eval e X.env) :: starEach es X.env := by rfl) (hp : (backTo pos (starEach es X.env)).any (·.1) = false := by rfl) : SE X E (.Call (.Name x p) (e :: es) [] pos) (cAp fm ca) :=
  PE.imp (pe_callB hc g.gl g.free hv ha g.nn g.db he hp) fun σ H Q h => tC.bind h fun σm l m ρ H xs rm rs rl q => ⟨ρ, m, l, rm, rl, q⟩
theorem d_bty {id : String} {fm : Ap} {ca : CA} {x : Str} {p : Pos} {es : List Expr} (hc : ApM X E (.type id) fm) (g : Bn X x) (hv : bootBuiltins x = some (.type id)) (ha : SA X E (e :: es) ca)
    (he : starEach (e :: es) X.env = (false, eval e X.env) :: starEach es X.env := by rfl) (hp : (backTo pos (starEach es X.env)).any (·.1) = false := by rfl) : SE X E (.Call (.Name x p) (e :: es) [] pos) (cAp fm ca) :=
  PE.imp (pe_callTy hc g.gl g.free hv ha g.nn g.db he hp) fun σ H Q h => tC.bind h fun σm l m ρ H xs rm rs rl q => ⟨ρ, m, l, rm, rl, q⟩
theorem rvs_one {K : PySem.W.Frag} {ρ : Nat → Addr} {n : Nat} {H : Hp} {v : MV} {xs : List V} (h : RVs K ρ n H [v] xs) : ∃ x, xs = [x] ∧ RV K ρ n H v x := by
  obtain ⟨y, ys, rfl, a, b⟩ := rvs_cons h
  rw [rvs_nil b]
  exact ⟨y, rfl, a⟩
theorem rvs_two {K : PySem.W.Frag} {ρ : Nat → Addr} {n : Nat} {H : Hp} {v w : MV} {xs : List V} (h : RVs K ρ n H [v, w] xs) : ∃ x y, xs = [x, y] ∧ RV K ρ n H v x ∧ RV K ρ n H w y := by
  obtain ⟨y, ys, rfl, a, b⟩ := rvs_cons h
  obtain ⟨x, rfl, c⟩ := rvs_one b
  exact ⟨y, x, rfl, a, c⟩
theorem ap_len : ApM X E (.builtin "len") bLen := ApM.of (call_len_seq.or call_len_str) fun ρ m H l xs Q rm rl q => by
  unfold bLen at q
  split at q
  · rename_i z
    obtain ⟨x, rfl, rx⟩ := rvs_one rl
    cases e3 : fits z.length with
    | false => rw [e3] at q; exact q.elim
    | true =>
      rw [e3] at q
      exact .inr ⟨z, by rw [rv_str rx], fits_iff.mp e3, q.ok (R := RVl X.K) rm mk_int⟩
  · rename_i v _
    obtain ⟨x, rfl, rx⟩ := rvs_one rl
    cases e0 : seqM m v with
    | none => rw [e0] at q; exact q.elim
    | some l =>
      rw [e0] at q
      obtain ⟨p, ys, rfl, hs, r⟩ := seq_read rm rx e0
      refine .inl ⟨p, ys, rfl, hs, ?_⟩
      rw [← RVs.len r]
      exact q.ok (R := RVl X.K) rm mk_int
  · exact q.elim
theorem ap_abs : ApM X E (.builtin "abs") bAbs := ApM.of call_abs fun ρ m H l xs Q rm rl q => by
  unfold bAbs at q
  split at q
  · obtain ⟨x, rfl, rx⟩ := rvs_one rl
    exact ⟨_, by rw [rv_int rx], q.ok (R := RVl X.K) rm mk_int⟩
  · exact q.elim
theorem ap_max2 (c : Cv CX X E k) : ApM X E (.builtin "max") bMax2 := ApM.of (call_max2 c.calm) fun ρ m H l xs Q rm rl q => by
  unfold bMax2 at q
  split at q
  · obtain ⟨x, y, rfl, rx, ry⟩ := rvs_two rl
    exact ⟨_, _, by rw [rv_int rx, rv_int ry], q.ok (R := RVl X.K) rm mk_int⟩
  · exact q.elim
theorem ap_min2 (c : Cv CX X E k) : ApM X E (.builtin "min") bMin2 := ApM.of (call_min2 c.calm) fun ρ m H l xs Q rm rl q => by
  unfold bMin2 at q
  split at q
  · obtain ⟨x, y, rfl, rx, ry⟩ := rvs_two rl
    exact ⟨_, _, by rw [rv_int rx, rv_int ry], q.ok (R := RVl X.K) rm mk_int⟩
  · exact q.elim
theorem ap_int : ApM X E (.type "int") bInt := ApM.of call_int1 fun ρ m H l xs Q rm rl q => by
  unfold bInt at q
  split at q
  · obtain ⟨x, rfl, rx⟩ := rvs_one rl
    exact .inl ⟨_, by rw [rv_int rx], q.ok (R := RVl X.K) rm mk_int⟩
  · rename_i b
    obtain ⟨x, rfl, rx⟩ := rvs_one rl
    refine .inr ⟨b, by rw [rv_bl rx], ?_⟩
    have q2 := q.ok (R := RVl X.K) rm mk_int
    cases b <;> exact q2
  · exact q.elim
theorem ap_divmod : ApM X E (.builtin "divmod") bDivmod := ApM.of call_divmod fun ρ m H l xs Q rm rl q => by
  unfold bDivmod at q
  split at q
  · rename_i i j
    obtain ⟨x, y, rfl, rx, ry⟩ := rvs_two rl
    cases z : (posInt j && j.toNat.blt 1073741824) with
    | false => rw [z] at q; exact q.elim
    | true =>
      rw [z] at q
      refine ⟨i, j, by rw [rv_int rx, rv_int ry], (div_ok z).1, fun p np => ?_⟩
      obtain ⟨rm2, ex2⟩ := rm.beside (o := .tup [.int (i / j), .int (i % j)]) np
      exact (Fin.base q ex2).ok (R := RVl X.K) rm2 (mk_tup (SqT.of upd_same) (mk_cons mk_int (mk_cons mk_int mk_nil)))
  · exact q.elim
theorem ints_rv {K : PySem.W.Frag} {ρ : Nat → Addr} {n : Nat} {H : Hp} : ∀ {l : List MV} {ns : List Int} {xs : List V}, intsOf l = some ns → RVs K ρ n H l xs → xs = ns.map V.int
  | [], ns, xs, h, r => by
    simp only [intsOf, Option.some.injEq] at h
    subst h
    rw [rvs_nil r]; rfl
  | v :: l, ns, xs, h, r => by
    obtain ⟨y, ys, rfl, a, b⟩ := rvs_cons r
    cases v <;> simp only [intsOf] at h <;> first | (cases h; done) | skip
    rename_i i
    cases e : intsOf l with
    | none => rw [e] at h; cases h
    | some ks =>
      rw [e] at h
      cases h
      rw [rv_int a, ints_rv e b]; rfl
theorem bls_rv {K : PySem.W.Frag} {ρ : Nat → Addr} {n : Nat} {H : Hp} : ∀ {l : List MV} {ns : List Bool} {xs : List V}, blsOf l = some ns → RVs K ρ n H l xs → xs = ns.map V.bl
  | [], ns, xs, h, r => by
    simp only [blsOf, Option.some.injEq] at h
    subst h
    rw [rvs_nil r]; rfl
  | v :: l, ns, xs, h, r => by
    obtain ⟨y, ys, rfl, a, b⟩ := rvs_cons r
    cases v <;> simp only [blsOf] at h <;> first | (cases h; done) | skip
    rename_i i
    cases e : blsOf l with
    | none => rw [e] at h; cases h
    | some ks =>
      rw [e] at h
      cases h
      rw [rv_bl a, bls_rv e b]; rfl
theorem sumL_eq : ∀ l : List Int, sumL l = l.sum
  | [] => rfl
  | x :: l => by rw [sumL, sumL_eq l, List.sum_cons]
theorem maxL_mem : ∀ (x : Int) (l : List Int), maxL x l ∈ x :: l ∧ ∀ y ∈ x :: l, y ≤ maxL x l
  | x, [] => ⟨by simp [maxL], fun y h => by simp at h; rw [h, maxL]; exact Int.le_refl _⟩
  | x, y :: l => by
    obtain ⟨h1, h2⟩ := maxL_mem (if x < y then y else x) l
    rw [maxL]
    by_cases hxy : x < y
    · rw [if_pos hxy] at h1 h2 ⊢
      refine ⟨List.mem_cons_of_mem _ h1, fun z hz => ?_⟩
      rcases List.mem_cons.mp hz with e | hz
      · subst e
        exact Int.le_trans (Int.le_of_lt hxy) (h2 y List.mem_cons_self)
      · exact h2 z hz
    · rw [if_neg hxy] at h1 h2 ⊢
      constructor
      · rcases List.mem_cons.mp h1 with e | h
        · rw [e]; exact List.mem_cons_self
        · exact List.mem_cons_of_mem _ (List.mem_cons_of_mem _ h)
      · intro z hz
        rcases List.mem_cons.mp hz with e | hz
        · subst e; exact h2 z List.mem_cons_self
        · rcases List.mem_cons.mp hz with e | hz
          · subst e; exact Int.le_trans (Int.not_lt.mp hxy) (h2 x List.mem_cons_self)
          · exact h2 z (List.mem_cons_of_mem _ hz)
theorem allB_eq : ∀ l : List Bool, allB l = l.all id
  | [] => rfl
  | x :: l => by rw [allB, allB_eq l, List.all_cons]; rfl
theorem anyB_eq : ∀ l : List Bool, anyB l = l.any id
  | [] => rfl
  | x :: l => by rw [anyB, anyB_eq l, List.any_cons]; rfl
theorem ap_sum (c : Cv CX X E k) : ApM X E (.builtin "sum") bSum := ApM.of (cr_sum c.calm) fun ρ m H l xs Q rm rl q => by
  unfold bSum at q
  split at q
  · rename_i v
    obtain ⟨x, rfl, rx⟩ := rvs_one rl
    cases e0 : lstM m v with
    | none => rw [e0] at q; exact q.elim
    | some l =>
      rw [e0] at q
      simp only at q
      obtain ⟨p, ys, rfl, hs, r⟩ := lstM_read rm rx e0
      cases e1 : intsOf l with
      | none => rw [e1] at q; exact q.elim
      | some ns =>
        rw [e1] at q
        rw [ints_rv e1 r] at hs
        refine ⟨p, ns, rfl, SqL.of hs, ?_⟩
        rw [← sumL_eq]
        exact q.ok (R := RVl X.K) rm mk_int
  · exact q.elim
theorem ap_max (c : Cv CX X E k) : ApM X E (.builtin "max") bMax := ApM.of (cr_max c.calm) fun ρ m H l xs Q rm rl q => by
  unfold bMax at q
  split at q
  · rename_i v
    obtain ⟨x, rfl, rx⟩ := rvs_one rl
    cases e0 : lstM m v with
    | none => rw [e0] at q; exact q.elim
    | some l =>
      rw [e0] at q
      simp only at q
      obtain ⟨p, ys, rfl, hs, r⟩ := lstM_read rm rx e0
      cases e1 : intsOf l with
      | none => rw [e1] at q; exact q.elim
      | some ns =>
        rw [e1] at q
        rw [ints_rv e1 r] at hs
        cases ns with
        | nil => exact q.elim
        | cons y ys =>
          refine ⟨p, y :: ys, rfl, SqL.of hs, Nat.succ_pos _, fun M h1 h2 => ?_⟩
          obtain ⟨k1, k2⟩ := maxL_mem y ys
          have e : M = maxL y ys := Int.le_antisymm (k2 M h1) (h2 _ k1)
          rw [e]
          exact q.ok (R := RVl X.K) rm mk_int
  · exact q.elim
theorem ap_all (c : Cv CX X E k) : ApM X E (.builtin "all") bAll := ApM.of (cr_all c.calm) fun ρ m H l xs Q rm rl q => by
  unfold bAll at q
  split at q
  · rename_i v
    obtain ⟨x, rfl, rx⟩ := rvs_one rl
    cases e0 : lstM m v with
    | none => rw [e0] at q; exact q.elim
    | some l =>
      rw [e0] at q
      simp only at q
      obtain ⟨p, ys, rfl, hs, r⟩ := lstM_read rm rx e0
      cases e1 : blsOf l with
      | none => rw [e1] at q; exact q.elim
      | some ns =>
        rw [e1] at q
        rw [bls_rv e1 r] at hs
        refine ⟨p, ns, rfl, SqL.of hs, ?_⟩
        rw [← allB_eq]
        exact q.ok (R := RVl X.K) rm mk_bl
  · exact q.elim
theorem ap_any (c : Cv CX X E k) : ApM X E (.builtin "any") bAny := ApM.of (cr_any c.calm) fun ρ m H l xs Q rm rl q => by
  unfold bAny at q
  split at q
  · rename_i v
    obtain ⟨x, rfl, rx⟩ := rvs_one rl
    cases e0 : lstM m v with
    | none => rw [e0] at q; exact q.elim
    | some l =>
      rw [e0] at q
      simp only at q
      obtain ⟨p, ys, rfl, hs, r⟩ := lstM_read rm rx e0
      cases e1 : blsOf l with
      | none => rw [e1] at q; exact q.elim
      | some ns =>
        rw [e1] at q
        rw [bls_rv e1 r] at hs
        refine ⟨p, ns, rfl, SqL.of hs, ?_⟩
        rw [← anyB_eq]
        exact q.ok (R := RVl X.K) rm mk_bl
  · exact q.elim
theorem ap_list : ApM X E (.type "list") bList := ApM.of call_list_of fun ρ m H l xs Q rm rl q => by
  unfold bList at q
  split at q
  · rename_i v
    obtain ⟨x, rfl, rx⟩ := rvs_one rl
    cases e0 : seqM m v with
    | none => rw [e0] at q; exact q.elim
    | some l =>
      rw [e0] at q
      obtain ⟨p, ys, rfl, hs, r⟩ := seq_read rm rx e0
      exact ⟨p, ys, rfl, hs, fun p np => fin_newL q rm r np⟩
  · exact q.elim
theorem ap_tuple : ApM X E (.type "tuple") bTuple := ApM.of call_tuple_of fun ρ m H l xs Q rm rl q => by
  unfold bTuple at q
  split at q
  · rename_i v
    obtain ⟨x, rfl, rx⟩ := rvs_one rl
    cases e0 : seqM m v with
    | none => rw [e0] at q; exact q.elim
    | some l =>
      rw [e0] at q
      obtain ⟨p, ys, rfl, hs, r⟩ := seq_read rm rx e0
      refine ⟨p, ys, rfl, ?_⟩
      rcases hs with hs | hs
      · refine .inl ⟨hs, fun p' np => ?_⟩
        obtain ⟨rm2, ex2⟩ := rm.beside (o := .tup ys) np
        exact (Fin.base q ex2).ok (R := RVl X.K) rm2 (mk_tup (SqT.of upd_same) (RVs.mono ex2 _ r))
      · exact .inr ⟨hs, q.ok (R := RVl X.K) rm (mk_tup hs r)⟩
  · exact q.elim
end
end Mini

set_option Elab.async false
set_option linter.all false
set_option maxRecDepth 100000
/-! mini: isinstance, repr, methods of lists. -/
namespace Mini
open PySem PySem.Spec PyProof.Rows L2

/-! ### isinstance -/
def Ty.nm : Ty → String
  | .int => "int"
  | .bool => "bool"
  | .str => "str"
  | .tuple => "tuple"
  | .list => "list"
  | .dict => "dict"
theorem kit_non (t : Ty) : kitB "NoneType" t.nm = some false := by cases t <;> decide +kernel
theorem kit_bool (t : Ty) : kitB "bool" t.nm = some (match t with | .int => true | .bool => true | _ => false) := by cases t <;> decide +kernel
theorem kit_int (t : Ty) : kitB "int" t.nm = some (match t with | .int => true | _ => false) := by cases t <;> decide +kernel
theorem kit_str (t : Ty) : kitB "str" t.nm = some (match t with | .str => true | _ => false) := by cases t <;> decide +kernel
theorem kit_tup (t : Ty) : kitB "tuple" t.nm = some (match t with | .tuple => true | _ => false) := by cases t <;> decide +kernel
theorem kit_lst (t : Ty) : kitB "list" t.nm = some (match t with | .list => true | _ => false) := by cases t <;> decide +kernel
theorem kit_dct (t : Ty) : kitB "dict" t.nm = some (match t with | .dict => true | _ => false) := by cases t <;> decide +kernel

section
variable {X : Cx} {E : XK} {a b e : Expr} {pos : Pos} {CX : CXT} {k : Nat}
theorem ty_tup {H : Hp} {p : Addr} {xs : List V} (h : SqT X.K H p xs) : TyX X.K H (.ref p) (.type "tuple") := by
  rcases h with (h | ⟨o, h⟩) | ⟨o, its, n, h, hc, _⟩
  · exact .base (.tup h)
  · exact .fTuple h
  · exact .kTuple h hc
/-- the kind of value, and what each class answers -/
theorem is_ty {ρ : Nat → Addr} {m : M} {H : Hp} {v : MV} {x : V} (rm : RM X.K ρ m H) (rv : RV X.K ρ m.n H v x) {t0 : Ty} {b0 : Bool} (h0 : isTy m t0 v = some b0) :
    ∃ T : String, TyX X.K H x (.type T) ∧ ∀ (t : Ty) (b : Bool), isTy m t v = some b → kitB T t.nm = some b := by
  cases v with
  | non => rw [rv_non rv]; exact ⟨_, .base .non, fun t b h => by rw [kit_non]; exact h⟩
  | bl i => rw [rv_bl rv]; exact ⟨_, .base (.bl _), fun t b h => by rw [kit_bool]; cases t <;> exact h⟩
  | int i => rw [rv_int rv]; exact ⟨_, .base (.int _), fun t b h => by rw [kit_int]; cases t <;> exact h⟩
  | str i => rw [rv_str rv]; exact ⟨_, .base (.str _), fun t b h => by rw [kit_str]; cases t <;> exact h⟩
  | rep i => rw [rv_rep rv]; exact ⟨_, .base (.str _), fun t b h => by rw [kit_str]; cases t <;> exact h⟩
  | glo i => cases h0
  | tup l =>
    obtain ⟨p, xs, rfl, hp, _⟩ := rv_tup rv
    exact ⟨_, ty_tup hp, fun t b h => by rw [kit_tup]; cases t <;> exact h⟩
  | ref p =>
    obtain ⟨hp, rfl⟩ := rv_ref rv
    unfold isTy at h0
    simp only at h0
    cases g : m.get p with
    | none => rw [g] at h0; cases h0
    | some o =>
      rw [g] at h0
      have ro := rm.get g
      cases o with
      | lst l =>
        obtain ⟨xs, e1, _⟩ := ro
        exact ⟨_, .base (.lst e1), fun t b h => by rw [kit_lst]; simp only [isTy, g] at h; cases t <;> exact h⟩
      | dct l =>
        obtain ⟨xs, e1, _⟩ := ro
        exact ⟨_, .base (.dK e1), fun t b h => by rw [kit_dct]; simp only [isTy, g] at h; cases t <;> exact h⟩
      | frz l => cases h0
      | hole => cases h0
/-- a built-in class by its name -/
theorem ty_name {x : Str} {n : String} {p : Pos} (g : Bn X x) (hv : bootBuiltins x = some (.type n)) : PE X (.Name x p) (L2.tC (.ty n)) := pe_bltn g.gl g.free hv rfl g.nn g.db
theorem d_isi {ca : CE} {t : Ty} {x y : Str} {p p2 : Pos} (ha : SE X E a ca) (g : Bn X x) (hv : bootBuiltins x = some (.builtin "isinstance")) (gt : Bn X y) (ht : bootBuiltins y = some (.type t.nm))
    (he : starEach [a, .Name y p2] X.env = (false, eval a X.env) :: starEach [.Name y p2] X.env := by rfl) (he2 : starEach [.Name y p2] X.env = (false, eval (.Name y p2) X.env) :: starEach [] X.env := by rfl)
    (hp : (backTo pos (starEach [.Name y p2] X.env)).any (·.1) = false := by rfl) : SE X E (.Call (.Name x p) [a, .Name y p2] [] pos) (cIsi ca [t]) :=
  PE.imp (pe_callB call_isi g.gl g.free hv (L2.pa_cons ha (L2.pa_cons (ty_name gt ht) L2.pa_nil he2) he) g.nn g.db he hp) fun σ H Q h => tC.bind h fun σm v m ρ H x rm rs rv q => by
    simp only [isTys] at q
    cases z : isTy m t v with
    | none => rw [z] at q; exact q.elim
    | some r =>
      rw [z] at q
      obtain ⟨T, h1, h2⟩ := is_ty rm rv z
      refine ⟨x, .ty t.nm, .type T, .type t.nm, r, rfl, .ty _, h1, kit_ty (h2 t r z), ?_⟩
      simp only [Bool.or_false] at q
      exact q.ok (R := RVl X.K) rm mk_bl
theorem kit_all {K : PySem.W.Frag} {m : M} {v : MV} {T : String} (h : ∀ (t : Ty) (b : Bool), isTy m t v = some b → kitB T t.nm = some b) : ∀ {ts : List Ty} {r : Bool}, isTys m ts v = some r → PySem.W.kitAny K (.type T) (ts.map fun t => .type t.nm) = some r
  | [], r, e => by
    simp only [isTys, Option.some.injEq] at e
    subst e
    exact kitAny_nil
  | t :: ts, r, e => by
    simp only [isTys] at e
    cases z : isTy m t v with
    | none => rw [z] at e; cases e
    | some b =>
      cases z2 : isTys m ts v with
      | none => rw [z, z2] at e; cases e
      | some b2 =>
        rw [z, z2] at e
        simp only [Option.some.injEq] at e
        subst e
        refine kitAny_cons (kit_ty (h t b z)) (fun hb => ?_) fun hb => by rw [hb]; rfl
        rw [hb, Bool.false_or]
        exact kit_all h z2
/-- isinstance(x, (T1, T2)) -/
theorem d_isi2 {ca : CE} {t t2 : Ty} {x y y2 : Str} {p p2 p3 p4 : Pos} {kk : Nat} (ha : SE X E a ca) (g : Bn X x) (hv : bootBuiltins x = some (.builtin "isinstance")) (gt : Bn X y) (ht : bootBuiltins y = some (.type t.nm))
    (gt2 : Bn X y2) (ht2 : bootBuiltins y2 = some (.type t2.nm)) (he : starEach [a, .Tuple [.Name y p2, .Name y2 p3] kk p4] X.env = (false, eval a X.env) :: starEach [.Tuple [.Name y p2, .Name y2 p3] kk p4] X.env := by rfl)
    (he2 : starEach [.Tuple [.Name y p2, .Name y2 p3] kk p4] X.env = (false, eval (.Tuple [.Name y p2, .Name y2 p3] kk p4) X.env) :: starEach [] X.env := by rfl)
    (he3 : starEach [.Name y p2, .Name y2 p3] X.env = (false, eval (.Name y p2) X.env) :: starEach [.Name y2 p3] X.env := by rfl) (he4 : starEach [.Name y2 p3] X.env = (false, eval (.Name y2 p3) X.env) :: starEach [] X.env := by rfl)
    (hp : (backTo pos (starEach [.Tuple [.Name y p2, .Name y2 p3] kk p4] X.env)).any (·.1) = false := by rfl) : SE X E (.Call (.Name x p) [a, .Tuple [.Name y p2, .Name y2 p3] kk p4] [] pos) (cIsi ca [t, t2]) :=
  PE.imp (pe_callB call_isiT g.gl g.free hv (L2.pa_cons ha (L2.pa_cons (pe_tup (L2.pa_cons (ty_name gt ht) (L2.pa_cons (ty_name gt2 ht2) L2.pa_nil he4) he3)) L2.pa_nil he2) he) g.nn g.db he hp) fun σ H Q h =>
    tC.bind h fun σm v m ρ H x rm rs rv q => by
      refine ⟨by show 2 ≤ sizeLine; decide, fun tp np => ?_⟩
      obtain ⟨rm2, ex2⟩ := rm.beside (o := .tup [.ty t.nm, .ty t2.nm]) np
      have q2 := Fin.base q ex2
      cases z : isTys m [t, t2] v with
      | none => rw [z] at q2; exact q2.elim
      | some r =>
        rw [z] at q2
        have z0 : ∃ b0, isTy m t v = some b0 := by
          simp only [isTys] at z
          cases e : isTy m t v with
          | none => rw [e] at z; cases z
          | some b0 => exact ⟨b0, rfl⟩
        obtain ⟨b0, z0⟩ := z0
        obtain ⟨T, h1, h2⟩ := is_ty rm2 (RV.mono ex2 _ rv) z0
        exact ⟨x, tp, [.ty t.nm, .ty t2.nm], .type T, [.type t.nm, .type t2.nm], r, rfl, upd_same, .cons (.ty _) (.cons (.ty _) .nil), h1, kit_all h2 z, q2.ok (R := RVl X.K) rm2 mk_bl⟩

/-! ### repr -/
theorem mapO_deep {g : MV → Option PyData} {n : Nat} (hg : ∀ v d, g v = some d → d.depth ≤ n) : ∀ {l : List MV} {ds : List PyData}, mapO g l = some ds → PyData.depthAll ds ≤ n
  | [], ds, h => by
    simp only [mapO, Option.some.injEq] at h
    subst h
    simp [PyData.depthAll]
  | v :: l, ds, h => by
    simp only [mapO] at h
    cases e : g v with
    | none => rw [e] at h; cases h
    | some d =>
      cases e2 : mapO g l with
      | none => rw [e, e2] at h; cases h
      | some ds' =>
        rw [e, e2] at h
        cases h
        have h1 := hg v d e
        have h2 := mapO_deep hg e2
        simp only [PyData.depthAll]
        omega
theorem toD_deep (m : M) : ∀ (f : Nat) {v : MV} {d : PyData}, toD m f v = some d → d.depth ≤ f
  | 0, v, d, h => by simp [toD] at h
  | f + 1, v, d, h => by
    have ih := fun v d => toD_deep m f (v := v) (d := d)
    cases v with
    | glo i => simp [toD] at h
    | tup l =>
      simp only [toD] at h
      cases e : mapO (toD m f) l with
      | none => rw [e] at h; cases h
      | some ds =>
        rw [e] at h
        cases h
        have := mapO_deep ih e
        simp only [PyData.depth]
        omega
    | ref a =>
      simp only [toD] at h
      cases g : m.get a with
      | none => rw [g] at h; cases h
      | some o =>
        rw [g] at h
        cases o with
        | lst l =>
          simp only at h
          cases e : mapO (toD m f) l with
          | none => rw [e] at h; cases h
          | some ds =>
            rw [e] at h
            cases h
            have := mapO_deep ih e
            simp only [PyData.depth]
            omega
        | _ => cases h
    | _ => simp only [toD, Option.some.injEq] at h; subst h; simp [PyData.depth]
theorem mapO_flat {g : MV → Option PyData} (hg : ∀ v d, g v = some d → d.hasDict = false) : ∀ {l : List MV} {ds : List PyData}, mapO g l = some ds → PyData.hasDictAll ds = false
  | [], ds, h => by
    simp only [mapO, Option.some.injEq] at h
    subst h
    simp [PyData.hasDictAll]
  | v :: l, ds, h => by
    simp only [mapO] at h
    cases e : g v with
    | none => rw [e] at h; cases h
    | some d =>
      cases e2 : mapO g l with
      | none => rw [e, e2] at h; cases h
      | some ds' =>
        rw [e, e2] at h
        cases h
        simp only [PyData.hasDictAll, hg v d e, mapO_flat hg e2, Bool.or_self]
theorem toD_flat (m : M) : ∀ (f : Nat) {v : MV} {d : PyData}, toD m f v = some d → d.hasDict = false
  | 0, v, d, h => by simp [toD] at h
  | f + 1, v, d, h => by
    have ih := fun v d => toD_flat m f (v := v) (d := d)
    cases v with
    | glo i => simp [toD] at h
    | tup l =>
      simp only [toD] at h
      cases e : mapO (toD m f) l with
      | none => rw [e] at h; cases h
      | some ds =>
        rw [e] at h
        cases h
        simp only [PyData.hasDict]
        exact mapO_flat ih e
    | ref a =>
      simp only [toD] at h
      cases g : m.get a with
      | none => rw [g] at h; cases h
      | some o =>
        rw [g] at h
        cases o with
        | lst l =>
          simp only at h
          cases e : mapO (toD m f) l with
          | none => rw [e] at h; cases h
          | some ds =>
            rw [e] at h
            cases h
            simp only [PyData.hasDict]
            exact mapO_flat ih e
        | _ => cases h
    | _ => simp only [toD, Option.some.injEq] at h; subst h; simp [PyData.hasDict]
/-- the text of a dict without entries -/
theorem shown_nodict : (PyData.dict []).shown.length ≤ sizeLine := by
  have e : (PyData.dict []).shown.length = 2 := by decide +kernel
  rw [e, sizeLine_eq]; decide
theorem reads_end {pins : List (Addr × Obj)} {σ : VS} {s : Shared} {H : Hp} {u : Value} {d : PyData} {as : List Addr} {Q : VK} (c : Cv CX X E k) (I : Inv X pins σ H s) (r : Reads s.heap u d as) (hs : d.showable = true)
    (hz : d.shown.length ≤ sizeLine) (hd : d.depth ≤ 100) (hm : d.hasDict = true → sysModules ∉ as) (q : Q (.str d.shown) H) : wpAny (model X.prog X.w) X.A (call (.builtin "repr") [u]) (EP X pins σ Q) X.xe s := by
  have hu : X.A.units + (d.depth + 1) < cLine := by have := c.room.un; omega
  have fin : ∀ (t : Tok) (s' : Shared), Inv X pins σ H s' → EP X pins σ Q (.str d.shown t) s' := fun t s' I' => ⟨.str d.shown, H, I', ⟨t, rfl⟩, q⟩
  have grow : ∀ {a : Addr}, u = .ref a → wpAny (model X.prog X.w) X.A (call (.builtin "repr") [u]) (EP X pins σ Q) X.xe s := fun {a} e => by
    subst e
    exact repr_of_reads' r hs hm c.gd hu (fun _ _ z => z) (fun h' t tk kk => fin t _ (I.kept kk)) hz
  cases r with
  | none =>
    have e : (PyData.none).shown = ("None" : Str) := by simp only [PyData.shown]
    rw [e] at fin
    exact P.repr_of_none (fin _ _ (I.tok _))
  | bool b =>
    cases b with
    | true =>
      have e : (PyData.bool true).shown = ("True" : Str) := by simp [PyData.shown]
      rw [e] at fin
      exact P.repr_of_bool (b := true) (fin _ _ (I.tok _))
    | false =>
      have e : (PyData.bool false).shown = ("False" : Str) := by simp [PyData.shown]
      rw [e] at fin
      exact P.repr_of_bool (b := false) (fin _ _ (I.tok _))
  | int i t =>
    have e : (PyData.int i).shown = ((toString i : String) : Str) := by simp only [PyData.shown]
    have hb : i.natAbs.log2 < 1920 := by simpa [PyData.showable] using hs
    rw [e] at fin
    exact P.repr_of_int hb (fin _ _ (I.tok _))
  | str x t =>
    have e : (PyData.str x).shown = reprText x := by simp only [PyData.shown]
    rw [e] at fin hz
    exact P.repr_of_str (fin _ _ (I.tok _)) hz
  | list _ _ _ _ => exact grow rfl
  | tuple _ _ _ _ => exact grow rfl
  | dict _ _ _ _ _ => exact grow rfl
theorem ap_repr (c : Cv CX X E k) : ApM X E (.builtin "repr") bRepr := by
  intro pins s σ H xs us Q I r ⟨ρ, m, l, rm, rl, q⟩
  unfold bRepr at q
  split at q
  · rename_i v
    obtain ⟨x, rfl, rx⟩ := rvs_one rl
    obtain ⟨u, rfl, ru⟩ := Vals.one r
    cases z : isNoDict m v with
    | true =>
      rw [z, cond_true] at q
      unfold isNoDict at z
      cases v <;> simp only at z <;> first | (cases z; done) | skip
      rename_i p
      obtain ⟨hp, rfl⟩ := rv_ref rx
      cases g : m.get p with
      | none => rw [g] at z; cases z
      | some o =>
        rw [g] at z
        cases o <;> first | (cases z; done) | skip
        rename_i kvs
        cases kvs with
        | cons _ _ => cases z
        | nil =>
          obtain ⟨ks, e1, e2⟩ := rm.get g
          have e2' : ks = [] := e2
          subst e2'
          cases ru
          obtain ⟨_, hsm, vs, rk, ob, es, ep, ho, hx, hd, _, hp2, _⟩ := I.hok _ _ e1
          cases rk
          have he : es.toList = [] := by
            cases h : es.toList with
            | nil => rfl
            | cons y ys => rw [h] at hp2; cases hp2
          have rd : Reads s.heap (.ref (ρ p)) (.dict []) [ρ p] := by
            have := Reads.dict (kvs := []) (as := []) (bs := []) ho hx.1 hd (by rw [he]; exact .nil) (by rw [he]; exact .nil)
            simpa using this
          refine reads_end c I rd (by simp [PyData.showable, PyData.showableKv]) shown_nodict (by simp [PyData.depth, PyData.depthKv]) (fun _ hm => ?_) (q.ok (R := RVl X.K) rm mk_rep)
          have e : ρ p = sysModules := (List.mem_singleton.mp hm).symm
          rw [e] at hsm
          exact absurd hsm (by decide)
    | false =>
      rw [z, cond_false] at q
      cases e : toD m deepest v with
      | none => rw [e] at q; exact q.elim
      | some d =>
        rw [e] at q
        simp only at q
        cases f : (d.showable && fits d.shown.length) with
        | false => rw [f] at q; exact q.elim
        | true =>
          rw [f] at q
          obtain ⟨f1, f2⟩ := Bool.and_eq_true_iff.mp f
          obtain ⟨as, rd⟩ := Dp.reads I d x u (toD_dp rm _ e rx) ru
          have dd := toD_deep m _ e
          have nd := toD_flat m _ e
          exact reads_end c I rd f1 (fits_iff.mp f2) (Nat.le_trans dd (by decide)) (fun h => by rw [nd] at h; cases h) (q.ok (R := RVl X.K) rm mk_rep)
  · exact q.elim

/-! ### methods of lists -/
theorem ty_lst {K : PySem.W.Frag} {H : Hp} {p : Addr} {xs : List V} (h : H p = some (.lst xs)) : tyV K "list" (.ref p) H := Or.inl ⟨rfl, xs, SqL.of h⟩
theorem isLst_ty {ρ : Nat → Addr} {m : M} {H : Hp} {v : MV} {x : V} (rm : RM X.K ρ m H) (rv : RV X.K ρ m.n H v x) (h : isLst m v = true) : tyV X.K "list" x H := by
  unfold isLst at h
  split at h
  · rename_i a
    obtain ⟨ha, rfl⟩ := rv_ref rv
    cases g : m.get a with
    | none => rw [g] at h; cases h
    | some o =>
      rw [g] at h
      cases o with
      | lst l => obtain ⟨xs, e1, _⟩ := rm.get g; exact ty_lst e1
      | _ => cases h
  · cases h
/-- a method of a list with one argument -/
def MtM1 (X : Cx) (E : XK) (id : String) (f : Op2) : Prop :=
  MtR X id fun x xs H Q => ∃ (ρ : Nat → Addr) (m : M) (v w : MV) (y : V), RM X.K ρ m H ∧ RV X.K ρ m.n H v x ∧ xs = [y] ∧ RV X.K ρ m.n H w y ∧ Fin X.K E (RVl X.K) ρ m H (f v w m) Q
def MtM0 (X : Cx) (E : XK) (id : String) (f : MV → M → Rs MV) : Prop :=
  MtR X id fun x xs H Q => ∃ (ρ : Nat → Addr) (m : M) (v : MV), RM X.K ρ m H ∧ RV X.K ρ m.n H v x ∧ xs = [] ∧ Fin X.K E (RVl X.K) ρ m H (f v m) Q
theorem MtR.imp {id : String} {r r' : V → List V → Hp → VK → Prop} (h : MtR X id r) (k : ∀ x xs H Q, r' x xs H Q → r x xs H Q) : MtR X id r' := fun pins s σ H x xs v us Q I rx rxs q => h pins s σ H x xs v us Q I rx rxs (k _ _ _ _ q)
theorem d_me1 {o : Expr} {name : Str} {id : String} {f : Op2} {apos cpos : Pos} {co ca : CE} (hm : MtM1 X E id f) (slot : Slot "list" name id) (hty : typeOf (.builtin id) = pure (.type "method_descriptor")) (ho : SE X E o co) (ha : SE X E a ca)
    (hbase : attributeBase o name X.env (eval o X.env) = eval o X.env := by rfl)
    (hfew : ((backTo cpos (starEach [a] X.env)).all (fun x => !x.1) && (backToKw cpos (keywordEach [] X.env)).all (fun x => x.1.isSome) && decide ([a].length + ([] : List Keyword).length + (if ([] : List Keyword).isEmpty then 0 else 1) < 30)) = true := by rfl)
    (hline : (apos.endLine == cpos.line) = true := by rfl) (hs : starEach [a] X.env = (false, eval a X.env) :: starEach [] X.env := by rfl) (hplain : (backTo cpos (starEach [] X.env)).any (·.1) = false := by rfl) :
    SE X E (.Call (.Attribute o name apos) [a] [] cpos) (cMe1 f co ca) :=
  PE.imp (pe_bm PySem.F.plainAttrs_list slot hty hm ho (L2.pa_cons ha L2.pa_nil hs) hbase hfew hline hs hplain) fun σ H Q h => by
    refine tC.bind h fun σm v m ρ H1 x rm rs rv q => ?_
    cases z : isLst m v with
    | false => rw [z] at q; exact q.elim
    | true =>
      rw [z, cond_true] at q
      refine ⟨isLst_ty rm rv z, ρ, σm, m, rm, rs, Fin.bind q fun w m2 ρ2 H2 y ex2 rm2 rw2 q2 => ?_⟩
      exact ⟨ρ2, m2, v, w, y, rm2, RV.mono ex2 _ rv, rfl, rw2, q2⟩
theorem d_me0 {o : Expr} {name : Str} {id : String} {f : MV → M → Rs MV} {apos cpos : Pos} {co : CE} (hm : MtM0 X E id f) (slot : Slot "list" name id) (hty : typeOf (.builtin id) = pure (.type "method_descriptor")) (ho : SE X E o co)
    (hbase : attributeBase o name X.env (eval o X.env) = eval o X.env := by rfl) (hline : (apos.endLine == cpos.line) = true := by rfl) : SE X E (.Call (.Attribute o name apos) [] [] cpos) (cMe0 f co) :=
  PE.imp (pe_bm0 PySem.F.plainAttrs_list slot hty hm ho hbase hline) fun σ H Q h => by
    refine tC.bind h fun σm v m ρ H1 x rm rs rv q => ?_
    cases z : isLst m v with
    | false => rw [z] at q; exact q.elim
    | true =>
      rw [z, cond_true] at q
      exact ⟨isLst_ty rm rv z, ρ, m, v, rm, rv, rfl, q⟩
theorem blt_true {a b : Nat} (h : a.blt b = true) : a < b := by rw [blt_iff] at h; exact of_decide_eq_true h
theorem mm_append : MtM1 X E "list.append" mAppend := MtR.imp mt_append fun x xs H Q ⟨ρ, m, v, w, y, rm, rv, e, rw', q⟩ => by
  subst e
  unfold mAppend at q
  split at q
  · rename_i a
    cases g : m.get a with
    | none => rw [g] at q; exact q.elim
    | some o =>
      rw [g] at q
      cases o <;> first | exact q.elim | skip
      rename_i l
      simp only at q
      obtain ⟨xs, rfl, ha, hx, rl⟩ := lst_read rm rv g
      cases z : l.length.blt 16777216 with
      | false => rw [z] at q; exact q.elim
      | true =>
        rw [z, cond_true] at q
        obtain ⟨rm2, ex2⟩ := lst_write (l' := l ++ [w]) rm g hx (RVs.app rl (mk_cons rw' mk_nil))
        refine ⟨_, xs, y, rfl, rfl, hx, ?_, ?_⟩
        · rw [← RVs.len rl, sizeLine_eq]; exact blt_true z
        · exact q ρ _ .non ex2 rm2 mk_non
  · exact q.elim
theorem mm_extend : MtM1 X E "list.extend" mExtend := MtR.imp mt_extend fun x xs H Q ⟨ρ, m, v, w, y, rm, rv, e, rw', q⟩ => by
  subst e
  unfold mExtend at q
  split at q
  · rename_i a b
    cases g : m.get a with
    | none => rw [g] at q; exact q.elim
    | some o =>
      cases g2 : m.get b with
      | none => rw [g, g2] at q; cases o <;> exact q.elim
      | some o2 =>
        rw [g, g2] at q
        cases o <;> cases o2 <;> first | exact q.elim | skip
        rename_i l k'
        simp only at q
        obtain ⟨xs, rfl, ha, hx, rl⟩ := lst_read rm rv g
        obtain ⟨ys, rfl, _, hy, rk⟩ := lst_read rm rw' g2
        cases z : fits (l.length + k'.length) with
        | false => rw [z] at q; exact q.elim
        | true =>
          rw [z, cond_true] at q
          obtain ⟨rm2, ex2⟩ := lst_write (l' := l ++ k') rm g hx (RVs.app rl rk)
          refine ⟨_, _, xs, ys, rfl, rfl, hx, hy, ?_, ?_⟩
          · rw [← RVs.len rl, ← RVs.len rk]; exact fits_iff.mp z
          · exact q ρ _ .non ex2 rm2 mk_non
  · exact q.elim
theorem mm_popAt : MtM1 X E "list.pop" mPopAt := MtR.imp mt_popAt fun x xs H Q ⟨ρ, m, v, w, y, rm, rv, e, rw', q⟩ => by
  subst e
  unfold mPopAt at q
  split at q
  · rename_i a i
    cases g : m.get a with
    | none => rw [g] at q; exact q.elim
    | some o =>
      rw [g] at q
      cases o <;> first | exact q.elim | skip
      rename_i l
      simp only at q
      obtain ⟨xs, rfl, ha, hx, rl⟩ := lst_read rm rv g
      cases z : small64 (i + i) with
      | false => rw [z] at q; exact q.elim
      | true =>
        rw [z, cond_true] at q
        cases e1 : ixM l.length i with
        | none => rw [e1] at q; exact q.elim
        | some j =>
          rw [e1] at q
          simp only at q
          cases e2 : at? l j with
          | none => rw [e2] at q; exact q.elim
          | some u =>
            rw [e2] at q
            obtain ⟨yy, ey, ry⟩ := RVs.get rl e2
            rw [ixM_eq, RVs.len rl] at e1
            have s64 := small64_iff z
            have e64 : (2 : Int) ^ 64 = 18446744073709551616 := by decide
            obtain ⟨rm2, ex2⟩ := lst_write (l' := l.eraseIdx j) rm g hx (RVs.erase j rl)
            refine ⟨_, xs, i, j, yy, rfl, by rw [rv_int rw'], hx, by omega, by omega, (ixN_seq e1).1, ey, ?_⟩
            exact q ρ _ yy ex2 rm2 (RV.mono ex2 _ ry)
  · exact q.elim
theorem mm_pop : MtM0 X E "list.pop" mPop := MtR.imp mt_pop fun x xs H Q ⟨ρ, m, v, rm, rv, e, q⟩ => by
  subst e
  unfold mPop at q
  split at q
  · rename_i a
    cases g : m.get a with
    | none => rw [g] at q; exact q.elim
    | some o =>
      rw [g] at q
      cases o <;> first | exact q.elim | skip
      rename_i l
      simp only at q
      obtain ⟨xs, rfl, ha, hx, rl⟩ := lst_read rm rv g
      cases e2 : at? l (l.length - 1) with
      | none => rw [e2] at q; exact q.elim
      | some u =>
        rw [e2] at q
        obtain ⟨yy, ey, ry⟩ := RVs.get rl e2
        rw [RVs.len rl] at ey
        obtain ⟨rm2, ex2⟩ := lst_write (l' := l.dropLast) rm g hx (RVs.dropLast rl)
        refine ⟨_, xs, yy, rfl, rfl, hx, ey, ?_⟩
        exact q ρ _ yy ex2 rm2 (RV.mono ex2 _ ry)
  · exact q.elim
end
end Mini

set_option Elab.async false
set_option linter.all false
set_option maxRecDepth 100000
/-! mini: targets, statements, loops, comprehensions. -/
namespace Mini
open PySem PySem.Spec PyProof.Rows L2

inductive VF where
  | nx (σ : VS) | rt (x : V) | bk (σ : VS) | ct (σ : VS)
def RFl (K : PySem.W.Frag) : Rl Fl VF := fun ρ n H a b => match a, b with
  | .nx s, .nx t => RS K ρ n H s t
  | .rt v, .rt x => RV K ρ n H v x
  | .bk s, .bk t => RS K ρ n H s t
  | .ct s, .ct t => RS K ρ n H s t
  | _, _ => False
def ends (D : Ends) : VF → Hp → Prop
  | .nx σ, H => D.nx σ H
  | .rt x, H => D.rt x H
  | .bk σ, H => D.bk σ H
  | .ct σ, H => D.ct σ H
section
variable {X : Cx} {E : XK} {st : Stmt} {sts : List Stmt} {a e : Expr} {pos : Pos} {CX : CXT} {k : Nat}
theorem PS.imp {t t' : TS} (h : PS X st t) (k : ∀ D σ H, t' D σ H → t D σ H) : PS X st t' := ⟨fun pins s σ H D I q => h.run pins s σ H D I (k _ _ _ q)⟩
theorem PSs.imp {t t' : TS} (h : PSs X sts t) (k : ∀ D σ H, t' D σ H → t D σ H) : PSs X sts t' := ⟨fun pins s σ H D I q => h.run pins s σ H D I (k _ _ _ q)⟩
theorem PG.imp {t t' : TG} (h : PG X e t) (k : ∀ x σ H Q, t' x σ H Q → t x σ H Q) : PG X e t' := ⟨fun pins s σ H v u Q I r q => h.run pins s σ H v u Q I r (k _ _ _ _ q)⟩
theorem PGs.imp {es : List Expr} {t t' : TGs} (h : PGs X es t) (k : ∀ x σ H Q, t' x σ H Q → t x σ H Q) : PGs X es t' := ⟨fun pins s σ H v u Q I r q => h.run pins s σ H v u Q I r (k _ _ _ _ q)⟩
theorem PI.imp {it : Expr} {t t' : TI} (h : PI X e it t) (k : ∀ σ H R, t' σ H R → t σ H R) : PI X e it t' := ⟨fun pins s σ H R I q => h.run pins s σ H R I (k _ _ _ q)⟩

def tS (K : PySem.W.Frag) (E : XK) (c : CS) : TS := fun D σ H => tC K E (RFl K) c σ H (ends D)
abbrev SS (X : Cx) (E : XK) (st : Stmt) (c : CS) : Prop := PS X st (tS X.K E c)
abbrev SB (X : Cx) (E : XK) (sts : List Stmt) (c : CS) : Prop := PSs X sts (tS X.K E c)

/-! ### targets -/
def Out (ws : List Nat) (σ σ' : VS) : Prop := σ'.length = σ.length ∧ ∀ j, j ∉ ws → σ'[j]? = σ[j]?
theorem Out.refl {ws : List Nat} {σ : VS} : Out ws σ σ := ⟨rfl, fun _ _ => rfl⟩
theorem Out.trans {ws vs : List Nat} {σ σ1 σ2 : VS} (h : Out ws σ σ1) (h2 : Out vs σ1 σ2) : Out (ws ++ vs) σ σ2 :=
  ⟨h2.1.trans h.1, fun j hj => (h2.2 j fun z => hj (List.mem_append_right _ z)).trans (h.2 j fun z => hj (List.mem_append_left _ z))⟩
def ROu (K : PySem.W.Frag) (ws : List Nat) (σ : VS) : Rl S VS := fun ρ n H a b => RS K ρ n H a b ∧ Out ws σ b
def tG (K : PySem.W.Frag) (E : XK) (ws : List Nat) (g : CG) : TG := fun x σ H Q => ∃ (ρ : Nat → Addr) (σm : S) (m : M) (v : MV), RM K ρ m H ∧ RS K ρ m.n H σm σ ∧ RV K ρ m.n H v x ∧ Fin K E (ROu K ws σ) ρ m H (g v σm m) Q
def tGs (K : PySem.W.Frag) (E : XK) (ws : List Nat) (g : CGs) : TGs := fun xs σ H Q => ∃ (ρ : Nat → Addr) (σm : S) (m : M) (l : List MV), RM K ρ m H ∧ RS K ρ m.n H σm σ ∧ RVs K ρ m.n H l xs ∧ Fin K E (ROu K ws σ) ρ m H (g l σm m) Q
abbrev SG (X : Cx) (E : XK) (ws : List Nat) (e : Expr) (g : CG) : Prop := PG X e (tG X.K E ws g)
abbrev SGs (X : Cx) (E : XK) (ws : List Nat) (es : List Expr) (g : CGs) : Prop := PGs X es (tGs X.K E ws g)
theorem nth_set {α : Type} (v : Option α) : ∀ (l : List (Option α)) (i j : Nat), nth (setN v l i) j = if i = j ∧ i < l.length then v else nth l j
  | [], i, j => by simp [setN, nth]
  | x :: r, 0, 0 => by simp [setN, nth]
  | x :: r, 0, j + 1 => by simp [setN, nth]
  | x :: r, i + 1, 0 => by simp [setN, nth]
  | x :: r, i + 1, j + 1 => by
    have := nth_set v r i j
    simp only [setN, nth, List.length_cons, this]
    by_cases h : i = j ∧ i < r.length
    · rw [if_pos h, if_pos ⟨by omega, by omega⟩]
    · rw [if_neg h, if_neg fun z => h ⟨by omega, by omega⟩]
theorem len_set {α : Type} (v : α) : ∀ (l : List α) (i : Nat), (setN v l i).length = l.length
  | [], _ => rfl
  | _ :: r, 0 => rfl
  | _ :: r, i + 1 => by simp only [setN, List.length_cons, len_set v r i]
theorem rs_set {K : PySem.W.Frag} {ρ : Nat → Addr} {n : Nat} {H : Hp} {σm : S} {σ : VS} {v : MV} {x : V} (rs : RS K ρ n H σm σ) (rv : RV K ρ n H v x) (i : Nat) : RS K ρ n H (setN (some v) σm i) (σ.set i (some x)) := by
  refine ⟨by rw [len_set, List.length_set]; exact rs.1, fun j w h => ?_⟩
  rw [nth_set] at h
  by_cases z : i = j ∧ i < σm.length
  · rw [if_pos z] at h
    cases h
    obtain ⟨z1, z2⟩ := z
    subst z1
    exact ⟨x, by rw [List.getElem?_set_self (by rw [← rs.1]; exact z2)], rv⟩
  · rw [if_neg z] at h
    obtain ⟨y, e1, r⟩ := rs.2 j w h
    refine ⟨y, ?_, r⟩
    by_cases z1 : i = j
    · subst z1
      have : σ.length ≤ i := by rw [← rs.1]; exact Nat.le_of_not_lt fun q => z ⟨rfl, q⟩
      rw [List.getElem?_eq_none this] at e1
      cases e1
    · rw [List.getElem?_set_ne z1]; exact e1
theorem out_set {σ : VS} {i : Nat} {x : Option V} : Out [i] σ (σ.set i x) := ⟨List.length_set, fun j hj => List.getElem?_set_ne fun z => hj (by rw [z]; exact List.mem_singleton.mpr rfl)⟩
/-- a name that may be stored -/
structure Ld (X : Cx) (i : Nat) (x : Str) : Prop where
  nd : X.N.Nodup
  at_ : X.N[i]? = some x
  loc : Loc X.env.scope x
  fn : X.fn x = true ∨ X.env.scope.names.lookup x = some .local
theorem g_name {i : Nat} {x : Str} (l : Ld X i x) : SG X E [i] (.Name x pos) (gNm i) := PG.imp (pg_name l.nd l.at_ l.loc l.fn) fun x σ H Q ⟨ρ, σm, m, v, rm, rs, rv, q⟩ =>
  q.ok (R := ROu X.K [i] σ) rm ⟨rs_set rs rv i, out_set⟩
theorem gs_nil : SGs X E [] [] gsNil := PGs.imp pgs_nil fun xs σ H Q ⟨ρ, σm, m, l, rm, rs, rl, q⟩ => by
  cases l with
  | nil => exact ⟨rvs_nil rl, q.ok (R := ROu X.K [] σ) rm ⟨rs, .refl⟩⟩
  | cons _ _ => exact q.elim
theorem gs_cons {ws vs : List Nat} {g : CG} {r : CGs} {es : List Expr} (h1 : SG X E ws e g) (h2 : SGs X E vs es r) (hs : (assignEach (e :: es) X.env).map (·.2) = assign e X.env :: (assignEach es X.env).map (·.2) := by rfl) :
    SGs X E (ws ++ vs) (e :: es) (gsCons g r) := PGs.imp (pgs_cons h1 h2 hs) fun xs σ H Q ⟨ρ, σm, m, l, rm, rs, rl, q⟩ => by
  cases l with
  | nil => exact q.elim
  | cons v l =>
    obtain ⟨y, ys, rfl, ry, ryl⟩ := rvs_cons rl
    refine ⟨y, ys, rfl, ρ, σm, m, v, rm, rs, ry, Fin.bind q fun σ1 m1 ρ1 H1 σ1' ex1 rm1 r1 q1 => ?_⟩
    refine ⟨ρ1, σ1, m1, l, rm1, r1.1, RVs.mono ex1 _ ryl, ?_⟩
    cases z : r l σ1 m1 with
    | ok a m2 =>
      rw [z] at q1
      exact fun ρ2 H2 b ex2 rm2 rb => q1 ρ2 H2 b ex2 rm2 ⟨rb.1, r1.2.trans rb.2⟩
    | exc x m2 => rw [z] at q1; exact q1
    | bad => rw [z] at q1; exact q1
theorem g_tup {es : List Expr} {j n : Nat} {ws : List Nat} {g : CGs} (hc : X.calm = true) (h : SGs X E ws es g)
    (hn : (assignEach es X.env).length = n := by rfl) (hst : (assignEach es X.env).findIdx? (·.1) = none := by rfl) : SG X E ws (.Tuple es j pos) (gTupC n g) :=
  PG.imp (pg_tup hc h hn hst) fun x σ H Q ⟨ρ, σm, m, v, rm, rs, rv, q⟩ => by
    cases v <;> first | exact q.elim | skip
    rename_i l
    obtain ⟨p, xs, rfl, hp, rl⟩ := rv_tup rv
    have q : Fin X.K E (ROu X.K ws σ) ρ m H (bif l.length.beq n then g l σm m else .bad) Q := q
    cases z : l.length.beq n with
    | false => rw [z] at q; exact q.elim
    | true =>
      rw [z, cond_true] at q
      refine ⟨p, xs, rfl, hp, ?_, ρ, σm, m, l, rm, rs, rl, q⟩
      rw [← RVs.len rl]
      exact Nat.eq_of_beq_eq_true z
theorem gSub_ok {ρ : Nat → Addr} {m : M} {H : Hp} {σm : S} {σ : VS} {a : Nat} {i : Int} {v : MV} {o x y : V} {l : List MV} {j : Nat} {Q : VS → Hp → Prop} (rm : RM X.K ρ m H) (rs : RS X.K ρ m.n H σm σ) (ra : RV X.K ρ m.n H (.ref a) o) (ri : RV X.K ρ m.n H (.int i) y)
    (rv : RV X.K ρ m.n H v x) (g : m.get a = some (.lst l)) (e : ixM l.length i = some j) (q : Fin X.K E (ROu X.K [] σ) ρ m H (.ok σm (m.put a (.lst (setN v l j)))) Q) : rSetL o y x H fun H3 => Q σ H3 := by
  obtain ⟨xs, rfl, ha, hx, rl⟩ := lst_read rm ra g
  rw [ixM_eq, RVs.len rl] at e
  obtain ⟨rm2, ex2⟩ := lst_write (l' := setN v l j) rm g hx (RVs.set rv j rl)
  exact ⟨_, xs, i, j, rfl, rv_int ri, hx, e, q ρ _ σ ex2 rm2 ⟨rs.mono ex2, .refl⟩⟩
theorem g_sub {o i : Expr} {co ci : CE} (ho : SE X E o co) (hi : SE X E i ci)
    (ha : ∀ v, assign (.Subscript o i pos) X.env v = (do
      let ov ← holding [v] (eval o X.env)
      let iv ← holding [v, ov] (eval i X.env)
      standAt pos
      holding [v, ov, iv] (setItem ov iv v)
      release [v, ov, iv] []) := by intro _; rfl) : SG X E [] (.Subscript o i pos) (gSubC co ci) :=
  PG.imp (pg_sub ho hi set_list ha) fun x σ H Q ⟨ρ, σm, m, v, rm, rs, rv, q⟩ => by
    refine ⟨ρ, σm, m, rm, rs, Fin.bind q fun w m1 ρ1 H1 y ex1 rm1 rw1 q1 => ?_⟩
    refine ⟨ρ1, σm, m1, rm1, rs.mono ex1, Fin.bind q1 fun u m2 ρ2 H2 z ex2 rm2 ru q2 => ?_⟩
    split at q2
    · rename_i ad kk
      cases g : m2.get ad with
      | none => rw [g] at q2; exact q2.elim
      | some ob =>
        rw [g] at q2
        cases ob <;> first | exact q2.elim | skip
        rename_i l
        simp only at q2
        cases e : ixM l.length kk with
        | none => rw [e] at q2; exact q2.elim
        | some j =>
          rw [e] at q2
          exact gSub_ok rm2 ((rs.mono ex1).mono ex2) (RV.mono ex2 _ rw1) ru (RV.mono (ex1.trans ex2) _ rv) g e q2
    · exact q2.elim

/-! ### small statements, blocks -/
theorem b_nil : SB X E [] sNil := PSs.imp pss_nil fun D σ H ⟨ρ, σm, m, rm, rs, q⟩ => Fin.ok (R := RFl X.K) (b := .nx σ) q rm rs
theorem b_one {c : CS} (h : SS X E st c) : SB X E [st] c := pss_one h
theorem b_cons {c d : CS} (h1 : SS X E st c) (h2 : SB X E sts d) : SB X E (st :: sts) (sSeq c d) := PSs.imp (pss_cons h1 h2) fun D σ H h =>
  tC.bind h fun σm f m ρ H b rm rs rb q => by
    cases f <;> cases b <;> first | exact False.elim rb | skip
    · exact ⟨ρ, _, m, rm, rb, q⟩
    · exact Fin.ok (R := RFl X.K) (Q := ends D) (b := .rt _) q rm rb
    · exact Fin.ok (R := RFl X.K) (Q := ends D) (b := .bk _) q rm rb
    · exact Fin.ok (R := RFl X.K) (Q := ends D) (b := .ct _) q rm rb
theorem s_pass : SS X E (.Pass pos) sNil := PS.imp ps_pass fun D σ H ⟨ρ, σm, m, rm, rs, q⟩ => Fin.ok (R := RFl X.K) (b := .nx σ) q rm rs
theorem s_cont : SS X E (.Continue pos) sCont := PS.imp ps_continue fun D σ H ⟨ρ, σm, m, rm, rs, q⟩ => Fin.ok (R := RFl X.K) (b := .ct σ) q rm rs
theorem s_ret {ca : CE} (ha : SE X E a ca) : SS X E (.Return (some a) pos) (sRet ca) := PS.imp (ps_ret ha) fun D σ H h => tC.bind h fun σm v m ρ H x rm rs rv q => Fin.ok (R := RFl X.K) (b := .rt x) q rm rv
theorem s_expr {ca : CE} (ha : SE X E a ca) (hs : swapsWith a none pos.line X.env = pure false := by rfl) : SS X E (.Expr a pos) (sExpr ca) := PS.imp (ps_expr ha hs) fun D σ H h => tC.bind h fun σm v m ρ H x rm rs rv q => Fin.ok (R := RFl X.K) (b := .nx σ) q rm rs
theorem s_if {c : Expr} {ss ts : List Stmt} {ct : CT} {ca cb : CS} (hc : ST X E c ct) (ha : SB X E ss ca) (hb : SB X E ts cb) : SS X E (.If c ss ts pos) (sIf ct ca cb) := PS.imp (ps_if hc ha hb) fun D σ H h =>
  tC.bind h fun σm v m ρ H x rm rs rv q => by
    cases (show v = x from rv)
    cases v <;> exact ⟨ρ, σm, m, rm, rs, q⟩
theorem asg_read {ca : CE} {ws : List Nat} {g : CG} {D : Ends} {σ : VS} {H : Hp} (h : tS X.K E (sAsg ca g) D σ H) : tAsg (tC X.K E (RVl X.K) ca) (tG X.K E ws g) D σ H :=
  tC.bind h fun σm v m ρ H x rm rs rv q => ⟨ρ, σm, m, v, rm, rs, rv, Fin.bind q fun σ1 m1 ρ1 H1 b ex1 rm1 r1 q1 => Fin.ok (R := RFl X.K) (b := .nx b) q1 rm1 r1.1⟩
theorem s_asg {tg : Expr} {ca : CE} {ws : List Nat} {g : CG} (ha : SE X E a ca) (hg : SG X E ws tg g) (hs : swapsWithSole [tg] a pos.line X.env = pure false := by rfl) (hw : swappedStores [tg] a X.env = pure none := by rfl)
    (h1 : (assignEach [tg] X.env).map (·.2) = [assign tg X.env] := by rfl) : SS X E (.Assign [tg] a pos) (sAsg ca g) := PS.imp (ps_asg ha hg hs hw h1) fun D σ H h => asg_read h
theorem s_set {i : Nat} {x : Str} {ca : CE} {p2 : Pos} (l : Ld X i x) (ha : SE X E a ca) (hs : swapsWith a (some (.Name x p2)) pos.line X.env = pure false := by rfl) : SS X E (.Assign [.Name x p2] a pos) (sAsg ca (gNm i)) :=
  PS.imp (ps_set l.nd l.at_ l.loc ha hs l.fn) fun D σ H h => tC.bind h fun σm v m ρ H x rm rs rv q => by
    exact Fin.ok (R := RFl X.K) (b := .nx (σ.set i (some x))) q rm (rs_set rs rv i)
/-- a, b = x, y of plain locals -/
theorem s_par2 {i j : Nat} {x y : Str} {a b : Expr} {ca : CA} {px py pt : Pos} {kt k2 : Nat} {pt2 : Pos} (hc : X.calm = true) (l1 : Ld X i x) (l2 : Ld X j y) (hij : i ≠ j) (hx : X.env.scope.names.lookup x = some .local) (hy : X.env.scope.names.lookup y = some .local)
    (ha : SA X E [a, b] ca) (hw : swappedStores [.Tuple [.Name x px, .Name y py] kt pt] (.Tuple [a, b] k2 pt2) X.env = pure (some [x, y]))
    (hs : swapsWithSole [.Tuple [.Name x px, .Name y py] kt pt] (.Tuple [a, b] k2 pt2) pos.line X.env = pure false := by rfl) : SS X E (.Assign [.Tuple [.Name x px, .Name y py] kt pt] (.Tuple [a, b] k2 pt2) pos) (sPar [i, j] ca) :=
  PS.imp (ps_par hc l1.nd l1.at_ l2.at_ hij hx hy ha hw hs) fun D σ H h => tC.bind h fun σm l m ρ H xs rm rs rl q => by
    cases z : l.length.beq [i, j].length with
    | false => rw [z] at q; exact q.elim
    | true =>
      rw [z, cond_true] at q
      have hl : l.length = 2 := Nat.eq_of_beq_eq_true z
      match l, hl, rl, q with
      | [v, w], _, rl, q =>
        obtain ⟨x1, y1, rfl, r1, r2⟩ := rvs_two rl
        exact ⟨x1, y1, rfl, Fin.ok (R := RFl X.K) (b := .nx _) q rm (rs_set (rs_set rs r1 i) r2 j)⟩
theorem s_par3 {i j l : Nat} {x y z : Str} {a b c : Expr} {ca : CA} {px py pz pt : Pos} {kt k2 : Nat} {pt2 : Pos} (hc : X.calm = true) (l1 : Ld X i x) (l2 : Ld X j y) (l3 : Ld X l z) (hij : i ≠ j) (hil : i ≠ l) (hjl : j ≠ l)
    (hx : X.env.scope.names.lookup x = some .local) (hy : X.env.scope.names.lookup y = some .local) (hz : X.env.scope.names.lookup z = some .local)
    (ha : SA X E [a, b, c] ca) (hw : swappedStores [.Tuple [.Name x px, .Name y py, .Name z pz] kt pt] (.Tuple [a, b, c] k2 pt2) X.env = pure (some [x, y, z]))
    (hs : swapsWithSole [.Tuple [.Name x px, .Name y py, .Name z pz] kt pt] (.Tuple [a, b, c] k2 pt2) pos.line X.env = pure false := by rfl) :
    SS X E (.Assign [.Tuple [.Name x px, .Name y py, .Name z pz] kt pt] (.Tuple [a, b, c] k2 pt2) pos) (sPar [i, j, l] ca) := by
  refine PS.imp (ps_par3 hc l1.nd l1.at_ l2.at_ l3.at_ hij hil hjl hx hy hz ha hw hs) fun D σ H h => tC.bind h fun σm l m ρ H xs rm rs rl q => ?_
  cases zz : l.length.beq 3 with
  | false =>
    have q : Fin X.K E (RFl X.K) ρ m H (bif l.length.beq 3 then Rs.ok (Fl.nx (setAll σm _ l)) m else Rs.bad) (ends D) := q
    rw [zz] at q; exact q.elim
  | true =>
    have q : Fin X.K E (RFl X.K) ρ m H (bif l.length.beq 3 then Rs.ok (Fl.nx (setAll σm _ l)) m else Rs.bad) (ends D) := q
    rw [zz, cond_true] at q
    have hl : l.length = 3 := Nat.eq_of_beq_eq_true zz
    match l, hl, rl, q with
    | [u, v, w], _, rl, q =>
      obtain ⟨x1, ys, rfl, r1, rl⟩ := rvs_cons rl
      obtain ⟨y1, z1, rfl, r2, r3⟩ := rvs_two rl
      exact ⟨x1, y1, z1, rfl, Fin.ok (R := RFl X.K) (Q := ends D) (b := .nx _) q rm (rs_set (rs_set (rs_set rs r1 _) r2 _) r3 _)⟩

/-! ### what is walked -/
def RIt (K : PySem.W.Frag) : Rl It L2.It := fun ρ n H J J' => match J with
  | .live a c => a < n ∧ J' = Itl K (ρ a)
  | .vals l => ∃ p xs, J' = Itt K p ∧ SqT K H p xs ∧ RVs K ρ n H l xs
  | .rng lo c => J' = Itr lo c
theorem RIt.mono {K : PySem.W.Frag} {ρ ρ' : Nat → Addr} {m m' : M} {H H' : Hp} {J : It} {J' : L2.It} (e : Ex ρ m H ρ' m' H') (h : RIt K ρ m.n H J J') : RIt K ρ' m'.n H' J J' := by
  cases J with
  | live a c => exact ⟨Nat.lt_of_lt_of_le h.1 e.le, by rw [e.same a h.1]; exact h.2⟩
  | vals l => obtain ⟨p, xs, h1, h2, h3⟩ := h; exact ⟨p, xs, h1, e.hx.sqT h2, RVs.mono e l h3⟩
  | rng lo c => exact h
abbrev SI (X : Cx) (E : XK) (tg it : Expr) (c : CI) : Prop := PI X tg it (tC X.K E (RIt X.K) c)
/-- an iterator of a list, of a tuple, just made -/
theorem iter_list {tg : Expr} {pins : List (Addr × Obj)} {σ : VS} {H : Hp} {s : Shared} {a : Addr} {xs : List V} {R : L2.It → Hp → Prop} {E1 : Value → Shared → Prop} (I : Inv X pins σ H s) (hq : SqL X.K H a xs) (q : R (Itl X.K a) H) :
    wpAny (model X.prog X.w) X.A (pyIter (.ref a)) (PIE X pins σ tg R) E1 s := by
  obtain ⟨us, ru, pl, _⟩ := I.list hq
  have new : H s.heap.objs.size = none := I.hok.fresh (Nat.le_refl _)
  have J : Inv X pins σ H { s with heap := s.heap.push { cls := .type "list_iterator", data := .fields #[.ref a, .int 0 0] } } := I.kept (t' := s.toks) fun _ _ z => Heap.get?_push_of_some _ z
  refine wpAny_pyIter_list pl.isList ⟨_, [s.heap.objs.size], _, _, H, rfl, J, turn_list a _, ⟨_, Heap.get?_push_size _ rfl, rfl, rfl⟩, fun b hb => ?_, q⟩
  rw [List.mem_singleton.mp hb]
  exact I.fpOk (Nat.le_refl _) new
theorem iter_tup {tg : Expr} {pins : List (Addr × Obj)} {σ : VS} {H : Hp} {s : Shared} {a : Addr} {xs : List V} {R : L2.It → Hp → Prop} {E1 : Value → Shared → Prop} (I : Inv X pins σ H s) (hq : SqT X.K H a xs) (q : R (Itt X.K a) H) :
    wpAny (model X.prog X.w) X.A (pyIter (.ref a)) (PIE X pins σ tg R) E1 s := by
  obtain ⟨us, ru, pl, _⟩ := I.tuple hq
  have new : H s.heap.objs.size = none := I.hok.fresh (Nat.le_refl _)
  have J : Inv X pins σ H { s with heap := s.heap.push { cls := .type "tuple_iterator", data := .fields #[.ref a, .int 0 0] } } := I.kept (t' := s.toks) fun _ _ z => Heap.get?_push_of_some _ z
  refine wpAny_pyIter_tuple (show s.heap.IsTuple a us.toArray from pl) ⟨_, [s.heap.objs.size], _, _, H, rfl, J, turn_tuple a _, ⟨_, Heap.get?_push_size _ rfl, rfl, rfl⟩, fun b hb => ?_, q⟩
  rw [List.mem_singleton.mp hb]
  exact I.fpOk (Nat.le_refl _) new
/-- over a list or a tuple -/
theorem i_seq {tg it : Expr} {ca : CE} (ha : SE X E it ca) : SI X E tg it (iSeqC ca) := ⟨fun pins s σ H R I h => by
  obtain ⟨ρ, σm, m, rm, rs, h⟩ := h
  unfold iSeqC at h
  have two : tC X.K E (RVl X.K) ca σ H (fun x H1 => (∃ a, x = .ref a ∧ (∃ xs, SqL X.K H1 a xs) ∧ R (Itl X.K a) H1) ∨ ∃ a, x = .ref a ∧ (∃ xs, SqT X.K H1 a xs) ∧ R (Itt X.K a) H1) := by
    refine ⟨ρ, σm, m, rm, rs, Fin.bind h fun v m1 ρ1 H1 x ex1 rm1 rv q => ?_⟩
    split at q
    · rename_i l
      obtain ⟨p, xs, rfl, hp, rl⟩ := rv_tup rv
      exact .inr ⟨p, rfl, ⟨xs, hp⟩, q.ok (R := RIt X.K) rm1 ⟨p, xs, rfl, hp, rl⟩⟩
    · rename_i a
      obtain ⟨ha', rfl⟩ := rv_ref rv
      cases g : m1.get a with
      | none => rw [g] at q; exact q.elim
      | some o =>
        rw [g] at q
        have ro := rm1.get g
        cases o with
        | lst l => obtain ⟨xs, e1, _⟩ := ro; exact .inl ⟨_, rfl, ⟨xs, SqL.of e1⟩, q.ok (R := RIt X.K) rm1 ⟨ha', rfl⟩⟩
        | frz l => obtain ⟨xs, e1, _⟩ := ro; exact .inl ⟨_, rfl, ⟨xs, e1.sq⟩, q.ok (R := RIt X.K) rm1 ⟨ha', rfl⟩⟩
        | hole => exact q.elim
        | dct l => exact q.elim
    · exact q.elim
  refine thn (ha.run pins s σ H _ I two) fun v s1 ⟨x, H1, I1, r1, q1⟩ => ?_
  rcases q1 with ⟨a, rfl, ⟨xs, hq⟩, q⟩ | ⟨a, rfl, ⟨xs, hq⟩, q⟩
  · cases r1; exact iter_list I1 hq q
  · cases r1; exact iter_tup I1 hq q⟩
theorem small62_iff {i : Int} (h : small62 i = true) : -(2 ^ 62) ≤ i ∧ i < 2 ^ 62 := by
  unfold small62 at h
  have h2 := blt_true h
  have e : (2 : Int) ^ 62 = 4611686018427387904 := by decide
  rw [e]
  omega
theorem i_rng1 {tg a : Expr} {ca : CE} {p : Pos} (g : Bn X "range") (ha : SE X E a ca) (hs : starEach [a] X.env = [(false, eval a X.env)] := by rfl) : SI X E tg (.Call (.Name "range" p) [a] [] pos) (Mini.iRng1 ca) :=
  PI.imp (pi_range1 g.gl g.free (L2.pa_cons ha L2.pa_nil hs) hs) fun σ H R h => tC.bind h fun σm v m ρ H x rm rs rv q => by
    cases v <;> first | exact q.elim | skip
    rename_i j
    have q : Fin X.K E (RIt X.K) ρ m H (bif small62 j then .ok (.rng 0 j.toNat) m else .bad) R := q
    cases z : small62 j with
    | false => rw [z] at q; exact q.elim
    | true =>
      rw [z, cond_true] at q
      obtain ⟨h1, h2⟩ := small62_iff z
      exact ⟨j, by rw [rv_int rv], h1, h2, q.ok (R := RIt X.K) rm rfl⟩
theorem i_rng2 {tg a b : Expr} {ca cb : CE} {p : Pos} (g : Bn X "range") (ha : SE X E a ca) (hb : SE X E b cb) (hs : starEach [a, b] X.env = [(false, eval a X.env), (false, eval b X.env)] := by rfl) (hs2 : starEach [b] X.env = [(false, eval b X.env)] := by rfl) :
    SI X E tg (.Call (.Name "range" p) [a, b] [] pos) (Mini.iRng2 ca cb) :=
  PI.imp (pi_range2 g.gl g.free (L2.pa_cons ha (L2.pa_cons hb L2.pa_nil hs2) (by rw [hs, hs2])) hs hs2) fun σ H R h => tC.two monoV h fun σm v w m ρ H x y rm rs rv rw' q => by
    cases v <;> first | exact q.elim | skip
    cases w <;> first | exact q.elim | skip
    rename_i i j
    have q : Fin X.K E (RIt X.K) ρ m H (bif small62 i && small62 j then .ok (.rng i (j - i).toNat) m else .bad) R := q
    cases z : (small62 i && small62 j) with
    | false => rw [z] at q; exact q.elim
    | true =>
      rw [z, cond_true] at q
      obtain ⟨z1, z2⟩ := Bool.and_eq_true_iff.mp z
      obtain ⟨h1, h2⟩ := small62_iff z1
      obtain ⟨h3, h4⟩ := small62_iff z2
      exact ⟨i, j, by rw [rv_int rv, rv_int rw'], ⟨h1, h2, h3, h4⟩, q.ok (R := RIt X.K) rm rfl⟩

/-! ### what stands at a turn -/
theorem it_go {ρ : Nat → Addr} {m : M} {H : Hp} {J : It} {J' : L2.It} {i : Nat} {v : MV} (rm : RM X.K ρ m H) (r : RIt X.K ρ m.n H J J') (hi : i < J.count) (h : J.at i m = some v) :
    J'.go i H ∧ ∀ x H', J'.yld i H x H' → H' = H ∧ RV X.K ρ m.n H v x := by
  cases J with
  | live a c =>
    obtain ⟨ha, rfl⟩ := r
    simp only [It.at] at h
    cases g : m.get a with
    | none => rw [g] at h; cases h
    | some o =>
      rw [g] at h
      have ro := rm.get g
      cases o with
      | lst l =>
        obtain ⟨xs, e1, rl⟩ := ro
        obtain ⟨x, ex, rx⟩ := RVs.get rl h
        refine ⟨⟨xs, x, SqL.of e1, ex⟩, fun y H' ⟨e, hy⟩ => ⟨e, ?_⟩⟩
        have := hy xs (SqL.of e1)
        rw [ex] at this
        cases this
        exact rx
      | frz l =>
        obtain ⟨xs, e1, rl⟩ := ro
        obtain ⟨x, ex, rx⟩ := RVs.get rl h
        have hs : SqL X.K H (ρ a) xs := e1.sq
        refine ⟨⟨xs, x, hs, ex⟩, fun y H' ⟨e, hy⟩ => ⟨e, ?_⟩⟩
        have := hy xs hs
        rw [ex] at this
        cases this
        exact rx
      | hole => cases h
      | dct l => cases h
  | vals l =>
    obtain ⟨p, xs, rfl, hp, rl⟩ := r
    obtain ⟨x, ex, rx⟩ := RVs.get rl h
    refine ⟨⟨xs, x, hp, ex⟩, fun y H' ⟨e, hy⟩ => ⟨e, ?_⟩⟩
    have := hy xs hp
    rw [ex] at this
    cases this
    exact rx
  | rng lo c =>
    cases (show J' = Itr lo c from r)
    simp only [It.at, Option.some.injEq] at h
    subst h
    exact ⟨hi, fun x H' ⟨e, hx⟩ => ⟨e, by rw [hx]; exact mk_int⟩⟩
theorem it_stop {ρ : Nat → Addr} {m : M} {H : Hp} {J : It} {J' : L2.It} {i : Nat} (rm : RM X.K ρ m H) (r : RIt X.K ρ m.n H J J') (hi : i = J.count) (h : J.fin i m = true) : J'.stop i H := by
  cases J with
  | live a c =>
    obtain ⟨ha, rfl⟩ := r
    simp only [It.fin] at h
    cases g : m.get a with
    | none => rw [g] at h; cases h
    | some o =>
      rw [g] at h
      have ro := rm.get g
      cases o with
      | lst l => obtain ⟨xs, e1, rl⟩ := ro; exact ⟨xs, SqL.of e1, by rw [← RVs.len rl]; exact Nat.ble_eq.mp h⟩
      | frz l => obtain ⟨xs, e1, rl⟩ := ro; exact ⟨xs, e1.sq, by rw [← RVs.len rl]; exact Nat.ble_eq.mp h⟩
      | hole => cases h
      | dct l => cases h
  | vals l =>
    obtain ⟨p, xs, rfl, hp, rl⟩ := r
    exact ⟨xs, hp, by rw [← RVs.len rl, hi]; exact Nat.le_refl _⟩
  | rng lo c =>
    cases (show J' = Itr lo c from r)
    rw [hi]
    exact Nat.le_refl c

/-! ### for, while -/
theorem s_for {tg it : Expr} {body : List Stmt} {ci : CI} {ws : List Nat} {g : CG} {cb : CS} (hc : X.calm = true) (own : PassesOwn (model X.prog X.w) X.A X.env X.xe) (hi : SI X E tg it ci) (hg : SG X E ws tg g) (hb : SB X E body cb)
    (hs : ∀ x, foldedSetIterable it X.env x = pure x := by intro _; rfl) : SS X E (.For tg it body [] pos) (sFor ci g cb) := PS.imp (ps_for own hc hi hg hb hs) fun D σ H h =>
  tC.bind h fun σm J m1 ρ1 H1 J' rm1 rs1 rJ q => by
    refine ⟨fun i k σ H => ∃ (ρ : Nat → Addr) (σm : S) (m : M), RM X.K ρ m H ∧ RS X.K ρ m.n H σm σ ∧ RIt X.K ρ m.n H J J' ∧ i + k = J.count ∧ Fin X.K E (RFl X.K) ρ m H (forL J g cb k i σm m) (ends D),
      ⟨J.count, ρ1, σm, m1, rm1, rs1, rJ, Nat.zero_add _, q⟩, ?_⟩
    rintro i k σ H ⟨ρ, σm, m, rm, rs, rJ, hik, q⟩
    cases k with
    | zero =>
      simp only [forL] at q
      cases z : J.fin i m with
      | false => rw [z] at q; exact q.elim
      | true =>
        rw [z, cond_true] at q
        exact .inl ⟨it_stop rm rJ (by omega) z, Fin.ok (R := RFl X.K) (Q := ends D) (b := .nx σ) q rm rs⟩
    | succ k =>
      simp only [forL] at q
      cases z : J.at i m with
      | none => rw [z] at q; exact q.elim
      | some v =>
        rw [z] at q
        obtain ⟨go, yl⟩ := it_go rm rJ (by omega) z
        refine .inr ⟨go, _, fun σ' H' hw => ⟨k, Nat.lt_succ_self k, hw⟩, fun x H' hy => ?_⟩
        obtain ⟨rfl, rx⟩ := yl x H' hy
        refine ⟨ρ, σm, m, v, rm, rs, rx, Fin.bind q fun σ1 m2 ρ2 H2 σ1' ex2 rm2 r2 q2 => ?_⟩
        refine ⟨ρ2, σ1, m2, rm2, r2.1, Fin.bind q2 fun f m3 ρ3 H3 f' ex3 rm3 r3 q3 => ?_⟩
        have rJ3 := RIt.mono (ex2.trans ex3) rJ
        cases f <;> cases f' <;> first | exact False.elim r3 | skip
        · exact ⟨ρ3, _, m3, rm3, r3, rJ3, by omega, q3⟩
        · exact Fin.ok (R := RFl X.K) (Q := ends D) (b := .rt _) q3 rm3 r3
        · exact Fin.ok (R := RFl X.K) (Q := ends D) (b := .nx _) q3 rm3 r3
        · exact ⟨ρ3, _, m3, rm3, r3, rJ3, by omega, q3⟩
theorem s_while {c : Expr} {body : List Stmt} {ct : CT} {cb : CS} (own : PassesOwn (model X.prog X.w) X.A X.env X.xe) (hc : ST X E c ct) (hb : SB X E body cb) : SS X E (.While c body [] pos) (sWhile ct cb) := PS.imp (ps_while own hc hb) fun D σ H ⟨ρ, σm, m, rm, rs, q⟩ => by
  refine ⟨fun k σ H => ∃ (ρ : Nat → Addr) (σm : S) (m : M), RM X.K ρ m H ∧ RS X.K ρ m.n H σm σ ∧ Fin X.K E (RFl X.K) ρ m H (whileL ct cb k σm m) (ends D), ⟨turnsMax, ρ, σm, m, rm, rs, q⟩, ?_⟩
  rintro k σ H ⟨ρ, σm, m, rm, rs, q⟩
  cases k with
  | zero => exact q.elim
  | succ k =>
    simp only [whileL] at q
    refine ⟨ρ, σm, m, rm, rs, Fin.bind q fun b m1 ρ1 H1 b' ex1 rm1 rb q1 => ?_⟩
    cases (show b = b' from rb)
    cases b with
    | false =>
      rw [if_neg Bool.false_ne_true]
      exact Fin.ok (R := RFl X.K) (Q := ends D) (b := .nx σ) q1 rm1 (rs.mono ex1)
    | true =>
      rw [if_pos rfl]
      refine ⟨_, fun σ' H' hw => ⟨k, Nat.lt_succ_self k, hw⟩, ρ1, σm, m1, rm1, rs.mono ex1, Fin.bind q1 fun f m3 ρ3 H3 f' ex3 rm3 r3 q3 => ?_⟩
      cases f <;> cases f' <;> first | exact False.elim r3 | skip
      · exact ⟨ρ3, _, m3, rm3, r3, q3⟩
      · exact Fin.ok (R := RFl X.K) (Q := ends D) (b := .rt _) q3 rm3 r3
      · exact Fin.ok (R := RFl X.K) (Q := ends D) (b := .nx _) q3 rm3 r3
      · exact ⟨ρ3, _, m3, rm3, r3, q3⟩
end
end Mini

set_option Elab.async false
set_option linter.all false
set_option maxRecDepth 100000
/-! mini: list comprehensions. -/
namespace Mini
open PySem PySem.Spec PyProof.Rows L2

theorem bind_ok {α β : Type} {r : Rs α} {f : α → M → Rs β} {b : β} {m' : M} (h : r.bind f = .ok b m') : ∃ a m1, r = .ok a m1 ∧ f a m1 = .ok b m' := by
  cases r with
  | ok a m1 => exact ⟨a, m1, rfl, h⟩
  | exc x m1 => cases h
  | bad => cases h
theorem rs_none {K : PySem.W.Frag} {ρ : Nat → Addr} {n : Nat} {H : Hp} {σm : S} {σ : VS} (rs : RS K ρ n H σm σ) (i : Nat) : RS K ρ n H (setN none σm i) (σ.set i none) := by
  refine ⟨by rw [len_set, List.length_set]; exact rs.1, fun j w h => ?_⟩
  rw [nth_set] at h
  by_cases z : i = j ∧ i < σm.length
  · rw [if_pos z] at h; cases h
  · rw [if_neg z] at h
    obtain ⟨y, e1, r⟩ := rs.2 j w h
    refine ⟨y, ?_, r⟩
    by_cases z1 : i = j
    · subst z1
      have : σ.length ≤ i := by rw [← rs.1]; exact Nat.le_of_not_lt fun q => z ⟨rfl, q⟩
      rw [List.getElem?_eq_none this] at e1
      cases e1
    · rw [List.getElem?_set_ne z1]; exact e1
/-- wipe from the left as mini does, against the layer's from the right -/
theorem rs_wipe {K : PySem.W.Frag} {ρ : Nat → Addr} {n : Nat} {H : Hp} : ∀ {vs : List Nat} {σm : S} {σ : VS}, RS K ρ n H σm σ → RS K ρ n H (wipeS σm vs) (wipe σ vs)
  | [], _, _, h => h
  | v :: vs, σm, σ, h => by
    have h1 := rs_wipe (vs := vs) (rs_none h v)
    have e : wipe (σ.set v none) vs = wipe σ (v :: vs) := by
      have comm : ∀ (us : List Nat) (τ : VS), wipe (τ.set v none) us = (wipe τ us).set v none := by
        intro us
        induction us with
        | nil => intro τ; rfl
        | cons u us ih =>
          intro τ
          show (wipe (τ.set v none) us).set u none = ((wipe τ us).set u none).set v none
          rw [ih]
          by_cases hv : u = v
          · rw [hv]
          · rw [List.set_comm _ _ (Ne.symm hv)]
      rw [comm]; rfl
    rw [← e]
    exact h1
theorem wipe_at {σ : VS} {i : Nat} : ∀ {vs : List Nat}, i ∈ vs → (wipe σ vs)[i]? = if i < σ.length then some none else none
  | v :: vs, h => by
    show ((wipe σ vs).set v none)[i]? = _
    by_cases e : v = i
    · subst e
      by_cases l : v < (wipe σ vs).length
      · rw [List.getElem?_set_self l]
        rw [wipe_length] at l
        rw [if_pos l]
      · rw [List.getElem?_eq_none (by simpa using l)]
        rw [wipe_length] at l
        rw [if_neg l]
    · rw [List.getElem?_set_ne e]
      rcases List.mem_cons.mp h with q | q
      · exact absurd q.symm e
      · exact wipe_at q
theorem wipe_of_out {σ σ2 : VS} {ws vs : List Nat} (h : Out ws (wipe σ vs) σ2) (hw : ∀ j ∈ ws, j ∈ vs) : wipe σ2 vs = wipe σ vs := by
  have hl : σ2.length = σ.length := by rw [h.1, wipe_length]
  refine List.ext_getElem? fun i => ?_
  by_cases hi : i ∈ vs
  · rw [wipe_at hi, wipe_at hi, hl]
  · rw [wipe_out hi, h.2 i fun z => hi (hw i z)]
theorem pts_of {X : Cx} {E : XK} {c : Expr} {ct : CT} (h : ST X E c ct) : PTs X [c] (tC X.K E (REq Bool) ct) := pts_one h
theorem PTs.imp {X : Cx} {ifs : List Expr} {t t' : TT} (h : PTs X ifs t) (k : ∀ σ H Q, t' σ H Q → t σ H Q) : PTs X ifs t' := ⟨fun pins s σ H Q I q => h.run pins s σ H Q I (k _ _ _ q)⟩
abbrev STs (X : Cx) (E : XK) (ifs : List Expr) (c : CT) : Prop := PTs X ifs (tC X.K E (REq Bool) c)
theorem ts_nil {X : Cx} {E : XK} : STs X E [] tYesC := PTs.imp pts_nil fun σ H Q ⟨ρ, σm, m, rm, rs, q⟩ => q.ok (R := REq Bool) rm rfl
theorem ts_one {X : Cx} {E : XK} {c : Expr} {ct : CT} (h : ST X E c ct) : STs X E [c] ct := pts_one h

section
variable {X : Cx} {E : XK} {pos : Pos}
/-- the list is done: the hole at a becomes a list -/
theorem close_hole {ρ : Nat → Addr} {m : M} {H : Hp} {a : Nat} {l : List MV} {xs : List V} (rm : RM X.K ρ m H) (g : m.get a = some .hole) (h : H (ρ a) = some (.lst xs)) (r : RVs X.K ρ m.n H l xs) : RM X.K ρ (m.put a (.lst l)) H := by
  have lt := M.get_lt g
  refine ⟨put_inj rm g rfl rfl, fun b hb => ?_⟩
  have hb : b < m.n := hb
  rw [M.get_put lt]
  by_cases z : b = a
  · subst z; rw [if_pos rfl]; exact ⟨_, rfl, xs, h, r⟩
  · obtain ⟨o, g', q⟩ := rm.obj b hb
    rw [if_neg z, g']
    exact ⟨o, rfl, q⟩
/-- one more item -/
theorem grow_hole {ρ : Nat → Addr} {m : M} {H : Hp} {a : Nat} {xs ys : List V} (rm : RM X.K ρ m H) (g : m.get a = some .hole) (h : H (ρ a) = some (.lst xs)) : RM X.K ρ m (upd H (ρ a) (.lst ys)) ∧
    (∀ (l : List MV) (zs : List V), RVs X.K ρ m.n H l zs → RVs X.K ρ m.n (upd H (ρ a) (.lst ys)) l zs) ∧ Hx H (upd H (ρ a) (.lst ys)) := by
  have lt := M.get_lt g
  have hx : Hx H (upd H (ρ a) (.lst ys)) := .list h
  have e : Ex ρ ⟨m.n, .lf⟩ H ρ ⟨m.n, .lf⟩ (upd H (ρ a) (.lst ys)) := ⟨Nat.le_refl _, fun _ _ => rfl, hx, fun a h => by
    unfold M.get at h
    cases q : a.blt m.n <;> simp [q, Tr.get] at h⟩
  refine ⟨⟨rm.inj, fun b hb => ?_⟩, fun l zs r => RVs.mono (m := ⟨m.n, .lf⟩) (m' := ⟨m.n, .lf⟩) e l r, hx⟩
  obtain ⟨o, g', q⟩ := rm.obj b hb
  by_cases z : b = a
  · subst z
    rw [g] at g'; cases g'
    exact ⟨_, g, ys, upd_same⟩
  · refine ⟨o, g', RO.ex (m := ⟨m.n, .lf⟩) (m' := ⟨m.n, .lf⟩) e (fun hf => upd_ne fun w => z (rm.inj b a _ _ g' g hf rfl w)) q⟩
theorem noX_ok {α : Type} {r : Rs α} {a : α} {m : M} (h : noX r = .ok a m) : r = .ok a m := by
  cases r <;> first | exact h | cases h
/-- Fin of a run that is known to go through -/
theorem fin_known {α β : Type} {K : PySem.W.Frag} {R : Rl α β} {ρ : Nat → Addr} {m : M} {H : Hp} {r : Rs α} {a : α} {m' : M} {P : β → Hp → Prop} {E0' : XK} (e : r = .ok a m')
    (k : ∀ ρ' H' b, Ex ρ m H ρ' m' H' → RM K ρ' m' H' → R ρ' m'.n H' a b → P b H') : Fin K E0' R ρ m H r P := by
  rw [e]; exact k
theorem lc_read {ci : CI} {ws own : List Nat} {g : CG} {ct : CT} {ce : CE} (hw : ∀ j ∈ ws, j ∈ own) {σ : VS} {H : Hp} {Q : VK} (h : tC X.K E (RVl X.K) (cComp ci g ct ce own) σ H Q) :
    tLc (tC X.K E (RIt X.K) ci) (tG X.K L2.E0 ws g) (tC X.K L2.E0 (REq Bool) ct) (tC X.K L2.E0 (RVl X.K) ce) own σ H Q := by
  refine tC.bind h fun σm J m0 ρ0 H0 J' rm0 rs0 rJ0 q => fun D hD => ?_
  -- the new list
  · have q1 : Fin X.K E (RVl X.K) ρ0 m0 H0 ((noX (compL J g ct ce (wipeS σm own) J.count 0 (m0.new .hole))).bind fun l m3 => bif fits l.length then .ok (.ref m0.n) (m3.put m0.n (.lst l)) else .bad) Q := q
    have exN : Ex ρ0 m0 H0 (ext ρ0 m0.n D) (m0.new .hole) (upd H0 D (.lst [])) := ex_new (o := .hole) rm0 hD
    have rmN : RM X.K (ext ρ0 m0.n D) (m0.new .hole) (upd H0 D (.lst [])) := rm0.fresh (o := .hole) (ho := .lst []) hD ⟨[], upd_same⟩
    refine ⟨fun i k H => ∃ (ρ : Nat → Addr) (m : M) (acc : List MV) (xs : List V), Ex ρ0 m0 H0 ρ m H ∧ RM X.K ρ m H ∧ RS X.K ρ m.n H (wipeS σm own) (wipe σ own) ∧ RIt X.K ρ m.n H J J' ∧ i + k = J.count ∧ m.get m0.n = some .hole ∧ ρ m0.n = D ∧
        H D = some (.lst xs) ∧ RVs X.K ρ m.n H acc xs ∧
        Fin X.K E (RVl X.K) ρ0 m0 H0 ((noX (compL J g ct ce (wipeS σm own) k i m)).bind fun l m3 => bif fits (acc ++ l).length then .ok (.ref m0.n) (m3.put m0.n (.lst (acc ++ l))) else .bad) Q,
      ⟨J.count, ext ρ0 m0.n D, m0.new .hole, [], [], exN, rmN, rs_wipe (rs0.mono exN), RIt.mono exN rJ0, Nat.zero_add _, by rw [M.get_new, if_pos rfl], ext_new, upd_same, mk_nil, q1⟩, ?_⟩
    rintro i k H ⟨ρ, m, acc, xs, ex, rm, rs, rJ, hik, hg, hρ, hH, rl, q⟩
    -- the rest goes through
    cases r : noX (compL J g ct ce (wipeS σm own) k i m) with
    | exc x m3 => exact absurd r (by cases z : compL J g ct ce (wipeS σm own) k i m <;> simp [noX])
    | bad => rw [r] at q; exact q.elim
    | ok l m3 =>
      rw [r] at q
      have q : Fin X.K E (RVl X.K) ρ0 m0 H0 (bif fits (acc ++ l).length then .ok (.ref m0.n) (m3.put m0.n (.lst (acc ++ l))) else .bad) Q := q
      have r := noX_ok r
      cases hf : fits (acc ++ l).length with
      | false => rw [hf] at q; exact q.elim
      | true =>
        rw [hf, cond_true] at q
        cases k with
        | zero =>
          simp only [compL] at r
          cases z : J.fin i m with
          | false => rw [z] at r; cases r
          | true =>
            rw [z, cond_true] at r
            cases r
            left
            refine ⟨it_stop rm rJ (by omega) z, ?_⟩
            rw [List.append_nil] at q
            have rm2 := close_hole (l := acc) rm hg (by rw [hρ]; exact hH) rl
            have l9 : m0.n < m.n := M.get_lt hg
            have := q ρ H (.ref D) ⟨ex.le, ex.same, ex.hx, fun a ha => ?_⟩ rm2 (by simp only [RVl, RV]; exact ⟨l9, by rw [hρ]⟩)
            · exact this
            · have ne : a ≠ m0.n := Nat.ne_of_lt (M.get_lt ha)
              rw [M.get_put (M.get_lt hg), if_neg ne]
              exact ex.hole a ha
        | succ k =>
          right
          simp only [compL] at r
          cases z : J.at i m with
          | none => rw [z] at r; cases r
          | some v =>
            rw [z] at r
            obtain ⟨go, yl⟩ := it_go rm rJ (by omega) z
            obtain ⟨σ1, m1, r1, r⟩ := bind_ok r
            obtain ⟨c, m2, r2, r⟩ := bind_ok r
            refine ⟨go, _, fun H' hw => ⟨k, Nat.lt_succ_self k, hw⟩, fun x H' hy => ?_⟩
            obtain ⟨rfl, rx⟩ := yl x H' hy
            refine ⟨ρ, _, m, v, rm, rs, rx, fin_known r1 fun ρ1 H1 σ1' ex1 rm1 ro => ⟨wipe_of_out ro.2 hw, ?_⟩⟩
            refine ⟨ρ1, σ1, m1, rm1, ro.1, fin_known r2 fun ρ2 H2 c' ex2 rm2 ec => ?_⟩
            cases (show c = c' from ec)
            have ex02 := ex1.trans ex2
            obtain ⟨hg2, hH2⟩ := ex02.hole _ hg
            rw [hρ, hH] at hH2
            have hρ2 : ρ2 m0.n = D := (ex02.same _ (M.get_lt hg)).trans hρ
            cases c with
            | false =>
              rw [if_neg Bool.false_ne_true]
              rw [cond_false] at r
              refine ⟨ρ2, m2, acc, xs, ex.trans ex02, rm2, rs.mono ex02, RIt.mono ex02 rJ, by omega, hg2, hρ2, hH2, RVs.mono ex02 _ rl, ?_⟩
              rw [r]
              show Fin _ _ _ _ _ _ (bif fits (acc ++ l).length then _ else _) Q
              rw [hf]
              exact q
            | true =>
              rw [if_pos rfl]
              rw [cond_true] at r
              obtain ⟨y, m4, r4, r⟩ := bind_ok r
              obtain ⟨ys, m5, r5, r⟩ := bind_ok r
              cases r
              refine ⟨ρ2, σ1, m2, rm2, ro.1.mono ex2, fin_known r4 fun ρ4 H4 y' ex4 rm4 ry => ?_⟩
              have ex04 := ex02.trans ex4
              obtain ⟨hg4, hH4⟩ := ex04.hole _ hg
              rw [hρ, hH] at hH4
              have hρ4 : ρ4 m0.n = D := (ex04.same _ (M.get_lt hg)).trans hρ
              have rl4 := RVs.mono ex04 _ rl
              obtain ⟨rm5, keep, hx5⟩ := grow_hole (ys := xs ++ [y']) rm4 hg4 (by rw [hρ4]; exact hH4)
              rw [hρ4] at rm5 keep hx5
              have hlen : acc.length < sizeLine := by
                have h1 := fits_iff.mp hf
                rw [List.length_append, List.length_cons] at h1
                omega
              have exE : Ex ρ0 m0 H0 ρ4 m4 (upd H4 D (.lst (xs ++ [y']))) := by
                have e4 := ex.trans ex04
                refine ⟨e4.le, e4.same, e4.hx.trans hx5, fun a ha => ?_⟩
                obtain ⟨k1, k2⟩ := e4.hole a ha
                refine ⟨k1, ?_⟩
                have ne : ρ0 a ≠ D := fun w => by
                  have la := M.get_lt ha
                  have e1 : ρ4 a = D := (e4.same a la).trans w
                  have := rm4.inj a m0.n _ _ k1 hg4 rfl rfl (e1.trans hρ4.symm)
                  omega
                rw [upd_ne ne]
                exact k2
              have rsE : RS X.K ρ4 m4.n (upd H4 D (.lst (xs ++ [y']))) (wipeS σm own) (wipe σ own) := rs_wipe (rs0.mono exE)
              refine ⟨xs, hH4, by rw [← RVs.len rl4]; exact hlen, ρ4, m4, acc ++ [y], xs ++ [y'], exE, rm5, rsE, ?_, by omega, hg4, hρ4, upd_same, keep _ _ (RVs.app rl4 (mk_cons ry mk_nil)), ?_⟩
              · exact RIt.mono exE rJ0
              · rw [r5]
                have e : acc ++ [y] ++ ys = acc ++ y :: ys := by rw [List.append_assoc]; rfl
                show Fin _ _ _ _ _ _ (bif fits (acc ++ [y] ++ ys).length then Rs.ok (MV.ref m0.n) (m3.put m0.n (.lst (acc ++ [y] ++ ys))) else _) Q
                rw [e, hf]
                exact q
theorem d_comp {elt tg iter : Expr} {ifs : List Expr} {scope : Scope} {own : List (Str × Nat)} {ci : CI} {ws : List Nat} {g : CG} {ct : CT} {ce : CE} (hc : X.calm = true) (hN : X.N.Nodup) (hi : SI X E tg iter ci) (ok : BlkOk X.N X.env.scope scope own) (hw : ∀ j ∈ ws, j ∈ own.map (·.2))
    (hg : ∀ (s : Shared) (H : Hp) (C : Addr) (cl : List (Str × Addr)) (fp : List Addr), SG (X.blk s H scope (compEnvC scope cl C X.env) fp) L2.E0 ws tg g)
    (ht : ∀ (s : Shared) (H : Hp) (C : Addr) (cl : List (Str × Addr)) (fp : List Addr), STs (X.blk s H scope (compEnvC scope cl C X.env) fp) L2.E0 ifs ct)
    (he : ∀ (s : Shared) (H : Hp) (C : Addr) (cl : List (Str × Addr)) (fp : List Addr), SE (X.blk s H scope (compEnvC scope cl C X.env) fp) L2.E0 elt ce) (hs : ∀ x, foldedSetIterable iter X.env x = pure x := by intro _; rfl) :
    SE X E (.ListComp elt [⟨tg, iter, ifs, 0⟩] scope pos) (cComp ci g ct ce (own.map (·.2))) :=
  PE.imp (pe_lc hc hN hi ok hg ht he hs) fun σ H Q h => lc_read hw h
/-- name = [..] on one line, the name a local -/
theorem s_comp {i : Nat} {y : Str} {py : Pos} {elt tg iter : Expr} {ifs : List Expr} {scope : Scope} {own : List (Str × Nat)} {spos : Pos} {ci : CI} {ws : List Nat} {g : CG} {ct : CT} {ce : CE} (hc : X.calm = true) (l : Ld X i y) (hyl : X.env.scope.names.lookup y = some .local)
    (hsw : swapsWith (.ListComp elt [⟨tg, iter, ifs, 0⟩] scope pos) (some (.Name y py)) spos.line X.env = pure true) (hi : SI X E tg iter ci) (ok : BlkOk X.N X.env.scope scope own) (hw : ∀ j ∈ ws, j ∈ own.map (·.2))
    (hg : ∀ (s : Shared) (H : Hp) (C : Addr) (cl : List (Str × Addr)) (fp : List Addr), SG (X.blk s H scope (compEnvC scope cl C X.env) fp) L2.E0 ws tg g)
    (ht : ∀ (s : Shared) (H : Hp) (C : Addr) (cl : List (Str × Addr)) (fp : List Addr), STs (X.blk s H scope (compEnvC scope cl C X.env) fp) L2.E0 ifs ct)
    (he : ∀ (s : Shared) (H : Hp) (C : Addr) (cl : List (Str × Addr)) (fp : List Addr), SE (X.blk s H scope (compEnvC scope cl C X.env) fp) L2.E0 elt ce) (hs : ∀ x, foldedSetIterable iter X.env x = pure x := by intro _; rfl) :
    SS X E (.Assign [.Name y py] (.ListComp elt [⟨tg, iter, ifs, 0⟩] scope pos) spos) (sAsg (cComp ci g ct ce (own.map (·.2))) (gNm i)) :=
  PS.imp (ps_setLc hc l.nd l.at_ hyl hsw hi ok hg ht he hs) fun D σ H h => by
    have h2 : tC X.K E (RVl X.K) (cComp ci g ct ce (own.map (·.2))) σ H (fun x H1 => D.nx (σ.set i (some x)) H1) := tC.bind h fun σm v m ρ H x rm rs rv q => by
      exact Fin.ok (R := RFl X.K) (Q := ends D) (b := .nx (σ.set i (some x))) q rm (rs_set rs rv i)
    exact lc_read hw h2
end
end Mini

set_option Elab.async false
set_option linter.all false
set_option maxRecDepth 100000
/-! mini: defs, their calls, the law's end. -/
namespace Mini
open PySem PySem.Spec PyProof.Rows L2

/-- what the i-th def of mini's table promises -/
def SpF (K : PySem.W.Frag) (F : FT) (i : Nat) (vs : List V) (H : Hp) (Q : VK) (E : XK) : Prop :=
  ∃ (ρ : Nat → Addr) (m : M) (l : List MV), RM K ρ m H ∧ RVs K ρ m.n H l vs ∧ Fin K E (RVl K) ρ m H (F i l m) Q
/-- a def does as mini's table says, where no repr is under way -/
structure FnG (CX : CXT) (P : Program) (w : World) (K : PySem.W.Frag) (mg : Str → Option Value) (base : Heap) (k : Nat) (f : Addr) (fd : FuncData) (ps : List Str) (F : FT) (i : Nat) : Prop where
  run : ∀ (A : Around) (outer : List Env) (s : Shared) (H : Hp) (args : Args) (us : List Value) (vs : List V) (Q : VK) (E : XK),
    Room k A → A.guards = some [] → Env0 P w K mg base A outer s H → BindsTo s fd args (ps.zip us) → Vals vs us → vs.length = ps.length → SpF K F i vs H Q E →
    codeAny (model P w) A (.call (.ref f) args) (CR CX outer P w H s Q E) s

theorem rvs_len {K : PySem.W.Frag} {ρ : Nat → Addr} {n : Nat} {H : Hp} {l : List MV} {xs : List V} (h : RVs K ρ n H l xs) : l.length = xs.length := RVs.len h
theorem rs_start {K : PySem.W.Frag} {ρ : Nat → Addr} {n : Nat} {H : Hp} {l : List MV} {vs : List V} {more : Nat} {N : List Str} (r : RVs K ρ n H l vs) (hN : N.length = vs.length + more) : RS K ρ n H (mkS l more) (L2.start N vs) := by
  have e : N.length - vs.length = more := by omega
  unfold mkS L2.start
  rw [e]
  refine ⟨by simp [rvs_len r], fun i v h => ?_⟩
  rw [nth_eq] at h
  by_cases hi : i < l.length
  · rw [List.getElem?_append_left (by simpa using hi), List.getElem?_map] at h
    have hl : at? l i = some v := by
      rw [at?_eq]
      cases z : l[i]? with
      | none => rw [z] at h; cases h
      | some a => rw [z] at h; simpa using h
    obtain ⟨x, ex, rx⟩ := RVs.get r hl
    have hi2 : i < vs.length := by rw [← rvs_len r]; exact hi
    exact ⟨x, by rw [List.getElem?_append_left (by simpa using hi2), List.getElem?_map, ex]; rfl, rx⟩
  · rw [List.getElem?_append_right (by simp; omega), List.getElem?_replicate] at h
    split at h <;> cases h

section
variable {CX : CXT} {P : Program} {w : World} {K : PySem.W.Frag} {mg : Str → Option Value} {base : Heap}
/-- a def's body, read as mini's code c, makes the table's promise -/
theorem fng {k i more : Nat} {x qual : Str} {params : Arguments} {body : List Stmt} {scope : Scope} {dvs : List V} {kws : List (Str × V)} {f : Addr} {fd : FuncData} {N ps : List Str} {F : FT} {c : CS}
    (D : FunD K x qual params body scope dvs kws f fd) (S : FnScope N ps scope) (hN : N.length = ps.length + more) (hF : F i = runB ps.length more c)
    (hb : ∀ (cdv : Value) (A : Around) (outer : List Env) (s : Shared) (H : Hp) (E : XK), Room k (cxOf CX P w K mg base N qual scope f cdv A outer s H E).A → (cxOf CX P w K mg base N qual scope f cdv A outer s H E).A.guards = some [] →
      SB (cxOf CX P w K mg base N qual scope f cdv A outer s H E) E body c) : FnG CX P w K mg base (k + 1) f fd ps F i := by
  obtain ⟨oc, od, dV, kV, doc, pm, an, cdv, ct, osl, rfl, lk, hcd, _, _⟩ := D.ex
  refine ⟨fun A outer s H args us vs Q E room gd e0 bnd rel hl ⟨ρ, m, l, rm, rl, q⟩ => ?_⟩
  have inK : K.In s.heap := e0.mod.kin.keeps fun b o e => (e0.bs b o e).1
  have noLim : s.heap.NoLimit := e0.mod.nolimit.keeps fun b o e => (e0.bs b o e).1
  have kinds : ∀ y ∈ ps.zip us, scope.names.lookup y.1 = some .local ∨ (scope.names.lookup y.1 = some .cell ∧ ((cellsFrom (s.heap.objs.size + 1) scope.names []).lookup y.1).isSome = true) := fun ⟨n, v⟩ hy =>
    (S.par n (List.of_mem_zip hy).1).imp id fun z => ⟨z, PySem.W.cellsFrom_some _ _ _ (.inl z)⟩
  refine codeAny_call_function room.depth (inK _ _ lk) rfl S.co S.gen rfl (PySem.W.codeRec_of inK hcd) (bnd _ _ _ _ (wpAny_newFunctionEnv_cells S.kind kinds fun env he s1 x => ?_))
  subst he
  have I : Inv (cxOf CX P w K mg base N qual scope f cdv A outer s H E) [] (L2.start N vs) H s1 := inv_start S room.hd e0 hl rel x
  have hgd : (cxOf CX P w K mg base N qual scope f cdv A outer s H E).A.guards = some [] := gd
  have len : l.length = ps.length := (rvs_len rl).trans hl
  have q2 : tS K E c { nx := fun _ H' => Q .non H', rt := Q } (L2.start N vs) H := by
    refine ⟨ρ, mkS l more, m, rm, rs_start rl (by rw [hN, hl]), ?_⟩
    rw [hF] at q
    unfold runB at q
    rw [show l.length.beq ps.length = true from by rw [len]; exact Nat.beq_refl _, cond_true] at q
    refine Fin.bind (R := RFl K) q fun fl m' ρ' H' b ex rm' rb q' => ?_
    cases fl with
    | nx σ => cases b with
      | nx τ => exact Fin.ok (R := RVl K) (b := V.non) q' rm' mk_non
      | _ => exact rb.elim
    | rt v => cases b with
      | rt y => exact Fin.ok (R := RVl K) q' rm' rb
      | _ => exact rb.elim
    | bk σ => exact q'.elim
    | ct σ => exact q'.elim
  refine ⟨noLim.keeps x.toInCall.keep, codeAny_func (wpAny_mono ((hb cdv A outer s H E (room.deeper _) hgd).run [] s1 (L2.start N vs) H _ I q2) (fun fl s' hs => ?_) fun e s' hs => hs)⟩
  have done : ∀ {σ' : VS} {H' : Hp} {v : V} {u : Value}, Inv (cxOf CX P w K mg base N qual scope f cdv A outer s H E) [] σ' H' s' → RelV v u → Q v H' → L2.CE outer P w H s Q u s' := fun J rv z => ⟨_, _, J.os, J.bare, J.base, J.hok, rv, z⟩
  cases fl with
  | ret u => exact let ⟨v, σ', H', J, rv, z⟩ := hs; done J rv z
  | next => exact let ⟨σ', H', J, z⟩ := hs; done (v := V.non) (u := Value.none) J rfl z
  | brk => exact let ⟨_, _, _, z⟩ := hs; z.elim
  | cont => exact let ⟨_, _, _, z⟩ := hs; z.elim
end

/-! ### calls -/
/-- f(e, ..), n arguments -/
def cFun (F : FT) (i n : Nat) (a : CA) : CE := fun σ m => (a σ m).bind fun xs m1 => bif xs.length.beq n then F i xs m1 else .bad
/-- f(e, .., k = v, ..): src says where each parameter's value comes from -/
inductive Src where
  | pos (j : Nat) | key (j : Nat) | dfl (v : MV)
/-- the def that stands at x -/
structure FkB (CX : CXT) (P : Program) (w : World) (K : PySem.W.Frag) (mg : Str → Option Value) (base : Heap) (k : Nat) (F : FT) (i n : Nat) (x : Str) : Prop where
  ex : ∃ (fd : FuncData) (ps : List Str), ps.length = n ∧ FnG CX P w K mg base k (He.ga K x) fd ps F i ∧ Binds K fd ps []
  at_ : mg x = some (.ref (He.ga K x))
  kp : PySem.W.keepIn K (.ref (He.ga K x)) = true
abbrev Fk (CX : CXT) (X : Cx) (k : Nat) (F : FT) (i n : Nat) (x : Str) : Prop := FkB CX X.prog X.w X.K X.mg X.base k F i n x
section
variable {CX : CXT} {X : Cx} {E : XK} {k : Nat} {F : FT} {i n : Nat} {x : Str} {e : Expr} {es : List Expr} {p pos : Pos}
theorem run_fng {f : Addr} {fd : FuncData} {ps : List Str} {args : Args} {pins : List (Addr × Obj)} {σ : VS} {H : Hp} {s : Shared} {Q : VK} {us : List Value} {vs : List V} (G : FnG CX X.prog X.w X.K X.mg X.base k f fd ps F i) (c : Cv CX X E k)
    (bnd : BindsTo s fd args (ps.zip us)) (I : Inv X pins σ H s) (r : Vals vs us) (hl : vs.length = ps.length) (h : SpF X.K F i vs H Q E) : codeAny (model X.prog X.w) X.A (.call (.ref f) args) (fun r s' => match r with
      | .ok (.ret u) => EP X pins σ Q u s'
      | .ok _ => False
      | .error z => X.xe z s') s := codeAny_mono (G.run X.A X.stack s H args us vs Q E c.room c.gd I.env0 bnd r hl h) fun r s' hq => by
  cases r with
  | error z => exact c.pass pins σ H s z s' I hq
  | ok fl => cases fl with
    | ret u => exact I.after hq
    | next => exact hq.elim
    | brk => exact hq.elim
    | cont => exact hq.elim
theorem d_fun {ca : CA} (g : Gn X x) (f : Fk CX X k F i n x) (c : Cv CX X E k) (ha : SA X E (e :: es) ca) (he : starEach (e :: es) X.env = (false, eval e X.env) :: starEach es X.env := by rfl) (hp : (backTo pos (starEach es X.env)).any (·.1) = false := by rfl) :
    SE X E (.Call (.Name x p) (e :: es) [] pos) (cFun F i n ca) := by
  obtain ⟨fd, ps, hn, G, B⟩ := f.ex
  refine ⟨fun pins s σ H Q I h => wpAny_Call_Name_kw (ld_glob I g.gl f.at_ ?_ g.db)⟩
  refine PySem.W.callWith_K (h₀ := X.base) I.ok.mod.kin f.kp (thn (ha.run pos pins s σ H _ I (tC.bind (P := fun xs H1 => xs.length = n ∧ SpF X.K F i xs H1 Q E) h fun σm l m ρ H1 xs rm rs rl q => ?_)) fun us s1 ⟨vs, H1, I1, r, hvs, sp⟩ => ⟨I1.kIn, ?_⟩) he hp
  · cases z : l.length.beq n with
    | false => rw [z] at q; exact q.elim
    | true =>
      rw [z] at q
      exact ⟨(rvs_len rl).symm.trans (Nat.eq_of_beq_eq_true z), ρ, m, l, rm, rl, q⟩
  · have b := B s1 us I1.kIn (by rw [List.append_nil, ← r.length, hvs, hn])
    rw [List.append_nil] at b
    exact wpAny_call (codeAny_mono (run_fng G c b I1 r (hvs.trans hn.symm) sp) fun r s' hq => by
      cases r with
      | error z => exact hq
      | ok fl => cases fl with
        | ret u => exact hq
        | next => exact hq.elim
        | brk => exact hq.elim
        | cont => exact hq.elim)
theorem d_fun0 (g : Gn X x) (f : Fk CX X k F i 0 x) (c : Cv CX X E k) : SE X E (.Call (.Name x p) [] [] pos) (cFun F i 0 aNil) := by
  obtain ⟨fd, ps, hn, G, B⟩ := f.ex
  refine ⟨fun pins s σ H Q I h => wpAny_Call_Name_kw (ld_glob I g.gl f.at_ ?_ g.db)⟩
  obtain ⟨ρ, σm, m, rm, rs, q⟩ := h
  have b := B s [] I.kIn (by rw [List.append_nil, hn]; rfl)
  rw [List.append_nil] at b
  refine PySem.W.callWith_K0 I.kIn f.kp (wpAny_call (codeAny_mono (run_fng (vs := []) (Q := Q) G c b I .nil hn.symm ⟨ρ, m, [], rm, mk_nil, q⟩) fun r s' hq => ?_))
  cases r with
  | error z => exact hq
  | ok fl => cases fl with
    | ret u => exact hq
    | next => exact hq.elim
    | brk => exact hq.elim
    | cont => exact hq.elim
end
end Mini

set_option Elab.async false
set_option linter.all false
set_option maxRecDepth 100000
/-! mini: a law's end. -/
namespace Mini
open PySem PySem.Spec PyProof.Rows L2

/-- the script, as mini's only object -/
def scr (ns : List Int) : M := (⟨0, .lf⟩ : M).new (.frz (ns.map .int))
theorem scr_get (ns : List Int) : (scr ns).get 0 = some (.frz (ns.map .int)) := rfl
theorem rvs_ints {K : PySem.W.Frag} {ρ : Nat → Addr} {n : Nat} {H : Hp} : ∀ ns : List Int, RVs K ρ n H (ns.map .int) (ns.map V.int)
  | [] => mk_nil
  | i :: ns => mk_cons mk_int (rvs_ints ns)
theorem scr_rm {K : PySem.W.Frag} {H : Hp} {a : Addr} {ns : List Int} (h : Fz K H a (ns.map V.int)) : RM K (fun _ => a) (scr ns) H := by
  have one : ∀ b, b < (scr ns).n → b = 0 := fun b hb => by have hb : b < 1 := hb; omega
  refine ⟨fun b c o o' hb hc _ _ _ => (one b (M.get_lt hb)).trans (one c (M.get_lt hc)).symm, fun b hb => ?_⟩
  rw [one b hb]
  exact ⟨_, scr_get ns, _, h, rvs_ints ns⟩
theorem mk_ref0 {K : PySem.W.Frag} {ρ : Nat → Addr} {n b : Nat} {H : Hp} (h : b < n) : RV K ρ n H (.ref b) (.ref (ρ b)) := by
  unfold RV
  exact ⟨h, rfl⟩
/-- the law's def is called with the script -/
theorem law_end {P : Program} {w : World} {K : PySem.W.Frag} {mg mb : Str → Option Value} {CX : CXT} {k i : Nat} {fa a : Addr} {fd : FuncData} {x : Str} {F : FT} {s₁ : Shared} {vs : List Value} {ns : List Int}
    (inK : K.In s₁.heap) (nsG : s₁.heap.Ns mainGlobals mg) (nsB : s₁.heap.Ns builtinsNs mb) (eB : ∀ y : Str, y ≠ "__name__" → mb y = bootBuiltins y) (noLim : s₁.heap.NoLimit) (noGen : s₁.gens = #[])
    (hS : s₁.heap.get? a = some { cls := .type "list", data := .seq vs.toArray }) (isI : IntsAre vs ns) (hl : ns.length ≤ sizeLine) (room : Room k callerA)
    (G : ∀ base : Heap, K.In base → base.Ns mainGlobals mg → FnG CX P w K mg base k fa fd [x] F i) (bnd : ∀ (s : Shared) (u : Value), BindsTo s fd ⟨[u], []⟩ [(x, u)])
    (ans : ∃ m', F i [.ref 0] (scr ns) = .ok (.bl true) m') (noX : ∀ H e s', CX [] H s₁ E0 e s' → False) :
    codeAny (model P w) callerA (.call (.ref fa) ⟨[.ref a], []⟩) (fun r s' => r = .ok (.ret (.bool true)) ∧ OldK s₁.heap s'.heap ∧ s'.os = s₁.os ∧ AllBare s'.gens) s₁ := by
  have vals := vals_ints isI
  have core : ∀ H : Hp, (∀ b u, H b = some u → b = a ∧ K.lookup a = none ∧ ∃ ob xs, u = .frz ob (.lst xs)) → Fz K H a (ns.map V.int) → HOk P w H s₁.heap →
      codeAny (model P w) callerA (.call (.ref fa) ⟨[.ref a], []⟩) (fun r s' => r = .ok (.ret (.bool true)) ∧ OldK s₁.heap s'.heap ∧ s'.os = s₁.os ∧ AllBare s'.gens) s₁ := by
    intro H only fz hok
    have out : ∀ b, b ≠ a → H b = none := fun b hb => by
      cases q : H b with
      | none => rfl
      | some u => exact absurd (only b u q).1 hb
    have keep : ∀ {b : Addr} {m : Str → Option Value}, s₁.heap.Ns b m → (hidT s₁.heap H).Ns b m := fun {b m} ⟨o, es, ep, e, d, r⟩ => by
      refine ⟨o, es, ep, hidT_get e (out b fun z => ?_), d, r⟩
      rw [z, hS] at e; cases e
      have d : Data.seq vs.toArray _ = Data.dict es ep := d
      cases d
    have inB : K.In (hidT s₁.heap H) := fun b o e => hidT_get (inK b o e) (by
      cases q : H b with
      | none => rfl
      | some u =>
        obtain ⟨z, z2, _⟩ := only b u q
        rw [z, z2] at e; cases e)
    have md : Mod K mg (hidT s₁.heap H) := ⟨inB, keep nsG, ⟨mb, keep nsB, eB⟩, noLim.elim fun mc h => ⟨mc, keep h.1, h.2⟩⟩
    have none_in : ∀ b : Addr, b ∉ ([] : List Addr) := fun b => List.not_mem_nil
    have env : Env0 P w K mg (hidT s₁.heap H) callerA [] s₁ H := ⟨rfl, md, fun b o e => of_hidT e, Nat.le_of_eq (hidT_size _ _), trivial, fun b hb => (none_in b hb).elim, hok, .of_eq noGen⟩
    obtain ⟨m', hans⟩ := ans
    have sp : SpF K F i [.ref a] H (fun v _ => v = .bl true) E0 := by
      refine ⟨fun _ => a, scr ns, [.ref 0], scr_rm fz, mk_cons (mk_ref0 Nat.zero_lt_one) mk_nil, ?_⟩
      rw [hans]
      exact fun _ _ _ _ _ rv => rv_bl rv
    refine codeAny_mono ((G _ inB (keep nsG)).run callerA [] s₁ H ⟨[.ref a], []⟩ [.ref a] [.ref a] _ _ room rfl env (bnd s₁ (.ref a)) (.cons rfl .nil) rfl sp) fun r s' h => ?_
    cases r with
    | error e => exact (noX H e s' h).elim
    | ok fl => cases fl with
      | next => exact h.elim
      | brk => exact h.elim
      | cont => exact h.elim
      | ret u =>
        obtain ⟨v, H', os, bare, un, hok', rv, q⟩ := h
        obtain rfl : v = .bl true := q
        obtain rfl : u = Value.bool true := rv
        refine ⟨rfl, OldK.of_keep fun b o e => ?_, os, bare⟩
        cases q : H b with
        | none => exact un.keep b o e q (none_in b) (by simp)
        | some u =>
          obtain ⟨_, _, ob2, xs2, eu⟩ := only b u q
          rw [eu] at q
          have z2 := un.frzs b ob2 (.lst xs2) q
          obtain ⟨g1, _⟩ := hok b _ q
          rw [e] at g1
          have z3 := (hok' b _ z2).1
          rw [← Option.some.inj g1] at z3
          exact z3
  cases hk : K.lookup a with
  | some o =>
    have e := inK a o hk
    rw [hS] at e; cases e
    refine core (fun _ => none) (fun b u z => nomatch z) (.inr ⟨_, vs.toArray, _, hk, rfl, rfl, rfl, ?_, vals⟩) fun b u z => nomatch z
    rw [List.size_toArray, isI.length]; exact hl
  | none =>
    have at_ : (fun b => if b = a then some (HO.frz { cls := .type "list", data := .seq vs.toArray } (.lst (ns.map V.int))) else none : Hp) a = some (.frz { cls := .type "list", data := .seq vs.toArray } (.lst (ns.map V.int))) := if_pos rfl
    have all : ∀ b u, (fun b => if b = a then some (HO.frz { cls := .type "list", data := .seq vs.toArray } (.lst (ns.map V.int))) else none : Hp) b = some u → b = a ∧ u = .frz { cls := .type "list", data := .seq vs.toArray } (.lst (ns.map V.int)) := fun b u z => by
      by_cases hb : b = a
      · subst hb; exact ⟨rfl, (Option.some.inj (at_.symm.trans z)).symm⟩
      · have z := (if_neg hb).symm.trans z; cases z
    refine core _ (fun b u z => ⟨(all b u z).1, hk, _, _, (all b u z).2⟩) (.inl ⟨_, at_⟩) fun b u z => ?_
    obtain ⟨rfl, rfl⟩ := all b u z
    exact ⟨hS, by rw [List.length_map]; exact hl, vs, _, vals, hS⟩

/-- the goal that a head leaves, from the law's answer in mini -/
theorem walk_end {l : PySem.W.OpenLaw} {n k i : Nat} {q : Program} {loose : List Str} {XP : (Str → Option Value) → Heap → Prop} {YP : World → Heap → Prop} {d : DefRec} {CX : CXT} {x : Str} {F : FT}
    (most : l.most = some n) (small : n ≤ sizeLine) (noDfl : d.params.defaults = []) (room : Room k callerA)
    (G : ∀ (w : World) (mg : Str → Option Value) (fa : Addr) (h : Heap), YP w h → h.Ns mainGlobals mg → mg d.name = some (.ref fa) →
      ∃ (K : PySem.W.Frag) (fd : FuncData), K.In h ∧ (∀ (s : Shared) (u : Value), BindsTo s fd ⟨[u], []⟩ [(x, u)]) ∧
        ∀ base : Heap, K.In base → base.Ns mainGlobals mg → FnG CX l.prog w K mg base k fa fd [x] F i)
    (ans : ∀ ns : List Int, ns.length ≤ n → ∃ m', F i [.ref 0] (scr ns) = .ok (.bl true) m') (noX : ∀ (H : Hp) (s : Shared) (e : Value) (s' : Shared), CX [] H s E0 e s' → False) :
    PySem.W.WalkO q loose XP YP l.row.toRowW d [] (fun f vs => PySem.call f vs) :=
  Att.attach_call most noDfl fun w s₀ s₁ mg mb fa o pm cd doc a vs ns Gr Y ho hd hcd hmg hobj hints hlen hg => by
    obtain ⟨K, fd, inK, hb, hF⟩ := G w mg fa _ Y Gr.T.g hmg
    exact law_end inK Gr.T.g Gr.T.b Gr.T.builtins Gr.T.nolimit hg hobj hints (Nat.le_trans hlen small) room hF hb (ans ns hlen) fun H e s' => noX H s₁ e s'
end Mini

set_option Elab.async false
set_option linter.all false
set_option maxRecDepth 100000
/-! mini: calls with keywords, with defaults. -/
namespace Mini
open PySem PySem.Spec PyProof.Rows L2

/-- the arguments in the parameters' order: 0 a positional one, 1 a default, 2 a keyword's -/
def mix {α : Type} (us its ws : List α) : List (Nat × Nat) → List α
  | [] => []
  | (c, j) :: r => match (match c with
    | 0 => at? us j
    | 1 => at? its j
    | _ => at? ws j) with
    | some v => v :: mix us its ws r
    | none => mix us its ws r
theorem vals_at {vs : List V} {us : List Value} (h : Vals vs us) : ∀ j : Nat, (at? vs j = none ∧ at? us j = none) ∨ ∃ v u, at? vs j = some v ∧ at? us j = some u ∧ RelV v u := by
  induction h with
  | nil => exact fun j => .inl ⟨rfl, rfl⟩
  | cons a b ih => exact fun j => match j with
    | 0 => .inr ⟨_, _, rfl, rfl, a⟩
    | j + 1 => ih j
theorem rvs_at {K : PySem.W.Frag} {ρ : Nat → Addr} {n : Nat} {H : Hp} : ∀ {l : List MV} {xs : List V}, RVs K ρ n H l xs → ∀ j : Nat, (at? l j = none ∧ at? xs j = none) ∨ ∃ v u, at? l j = some v ∧ at? xs j = some u ∧ RV K ρ n H v u
  | [], xs, h, j => by rw [rvs_nil h]; exact .inl ⟨rfl, rfl⟩
  | v :: l, xs, h, 0 => by obtain ⟨y, ys, rfl, a, b⟩ := rvs_cons h; exact .inr ⟨_, _, rfl, rfl, a⟩
  | v :: l, xs, h, j + 1 => by obtain ⟨y, ys, rfl, a, b⟩ := rvs_cons h; exact rvs_at b j
theorem mix_vals {vs ds zs : List V} {us its ws : List Value} (h1 : Vals vs us) (h2 : Vals ds its) (h3 : Vals zs ws) : ∀ ix : List (Nat × Nat), Vals (mix vs ds zs ix) (mix us its ws ix)
  | [] => .nil
  | (0, j) :: r => by
    unfold mix
    rcases vals_at h1 j with ⟨a, b⟩ | ⟨v, u, a, b, c⟩ <;> simp only [a, b]
    · exact mix_vals h1 h2 h3 r
    · exact .cons c (mix_vals h1 h2 h3 r)
  | (1, j) :: r => by
    unfold mix
    rcases vals_at h2 j with ⟨a, b⟩ | ⟨v, u, a, b, c⟩ <;> simp only [a, b]
    · exact mix_vals h1 h2 h3 r
    · exact .cons c (mix_vals h1 h2 h3 r)
  | (k + 2, j) :: r => by
    unfold mix
    rcases vals_at h3 j with ⟨a, b⟩ | ⟨v, u, a, b, c⟩ <;> simp only [a, b]
    · exact mix_vals h1 h2 h3 r
    · exact .cons c (mix_vals h1 h2 h3 r)
theorem mix_rvs {K : PySem.W.Frag} {ρ : Nat → Addr} {n : Nat} {H : Hp} {vs ds zs : List MV} {us its ws : List V} (h1 : RVs K ρ n H vs us) (h2 : RVs K ρ n H ds its) (h3 : RVs K ρ n H zs ws) : ∀ ix : List (Nat × Nat), RVs K ρ n H (mix vs ds zs ix) (mix us its ws ix)
  | [] => mk_nil
  | (0, j) :: r => by
    unfold mix
    rcases rvs_at h1 j with ⟨a, b⟩ | ⟨v, u, a, b, c⟩ <;> simp only [a, b]
    · exact mix_rvs h1 h2 h3 r
    · exact mk_cons c (mix_rvs h1 h2 h3 r)
  | (1, j) :: r => by
    unfold mix
    rcases rvs_at h2 j with ⟨a, b⟩ | ⟨v, u, a, b, c⟩ <;> simp only [a, b]
    · exact mix_rvs h1 h2 h3 r
    · exact mk_cons c (mix_rvs h1 h2 h3 r)
  | (k + 2, j) :: r => by
    unfold mix
    rcases rvs_at h3 j with ⟨a, b⟩ | ⟨v, u, a, b, c⟩ <;> simp only [a, b]
    · exact mix_rvs h1 h2 h3 r
    · exact mk_cons c (mix_rvs h1 h2 h3 r)

def cFunK (F : FT) (i np nk n : Nat) (ix : List (Nat × Nat)) (dm : List MV) (a ak : CA) : CE := fun σ m => (a σ m).bind fun xs m1 => (ak σ m1).bind fun zs m2 =>
  bif xs.length.beq np && zs.length.beq nk && (mix xs dm zs ix).length.beq n then F i (mix xs dm zs ix) m2 else .bad
/-- the def that stands at x, called with np positional values and keywords ks -/
structure FkkB (CX : CXT) (P : Program) (w : World) (K : PySem.W.Frag) (mg : Str → Option Value) (base : Heap) (k : Nat) (F : FT) (i np : Nat) (ks : List Str) (n : Nat) (ix : List (Nat × Nat)) (dvs : List V) (x : Str) : Prop where
  ex : ∃ (fd : FuncData) (ps : List Str) (its : List Value), ps.length = n ∧ FnG CX P w K mg base k (He.ga K x) fd ps F i ∧ KBn K fd ps np ks (fun us ws => mix us its ws ix) (fun vs zs => mix vs dvs zs ix)
  at_ : mg x = some (.ref (He.ga K x))
  kp : PySem.W.keepIn K (.ref (He.ga K x)) = true
abbrev Fkk (CX : CXT) (X : Cx) (k : Nat) (F : FT) (i np : Nat) (ks : List Str) (n : Nat) (ix : List (Nat × Nat)) (dvs : List V) (x : Str) : Prop := FkkB CX X.prog X.w X.K X.mg X.base k F i np ks n ix dvs x
/-- no defaults come in -/
theorem kbn_plain {K : PySem.W.Frag} {x qual : Str} {params : Arguments} {body : List Stmt} {scope : Scope} {kws : List (Str × V)} {f : Addr} {fd : FuncData} {ps ks : List Str} {np : Nat} {ix : List (Nat × Nat)} (D : FunD K x qual params body scope [] kws f fd)
    (h : ∀ (kV doc pm : Value) (an : Option Addr) (cdv ct : Value) (us ws : List Value), us.length = np → ws.length = ks.length → bindArgs (PySem.W.fnOf x qual params body scope .none kV doc pm an cdv ct) ⟨us, ks.zip ws⟩ = pure (ps.zip (mix us [] ws ix))) :
    ∃ its : List Value, KBn K fd ps np ks (fun us ws => mix us its ws ix) (fun vs zs => mix vs [] zs ix) := by
  obtain ⟨oc, od, dV, kV, doc, pm, an, cdv, ct, osl, rfl, lk, hcd, hD, hK⟩ := D.ex
  refine ⟨[], ⟨fun s us ws _ l1 l2 => ?_, fun r1 r2 => mix_vals r1 .nil r2 ix⟩⟩
  rcases hD with ⟨_, rfl⟩ | ⟨z, _⟩
  · exact .of_eq (h kV doc pm an cdv ct us ws l1 l2)
  · exact absurd rfl z
section
variable {CX : CXT} {X : Cx} {E : XK} {k i np n : Nat} {ks : List Str} {F : FT} {x : Str} {e : Expr} {es : List Expr} {p pos kpos : Pos} {kws : List Keyword} {ix : List (Nat × Nat)} {dvs : List V} {dm : List MV} {nm : Option Str}
abbrev SK (X : Cx) (E : XK) (kws : List Keyword) (c : CA) : Prop := PK X kws (tC X.K E (RAl X.K) c)
theorem PK.imp {t t' : TA} (h : PK X kws t) (z : ∀ σ H Q, t' σ H Q → t σ H Q) : PK X kws t' := ⟨fun p pins s σ H Q I q => h.run p pins s σ H Q I (z _ _ _ q)⟩
theorem k_nil : SK X E [] aNil := PK.imp pk_nil fun σ H Q ⟨ρ, σm, m, rm, rs, q⟩ => q.ok (R := RAl X.K) rm mk_nil
theorem k_cons {ca : CE} {r : CA} (ha : SE X E e ca) (hr : SK X E kws r) : SK X E (⟨nm, e, kpos⟩ :: kws) (aCons ca r) := PK.imp (pk_cons ha hr) fun σ H Q h => tC.bind h fun σm v m ρ H x rm rs rv q =>
  ⟨ρ, σm, m, rm, rs, Fin.bind q fun l m' ρ' H' xs ex rm' rl q' => q'.ok (R := RAl X.K) rm' (mk_cons (RV.mono ex v rv) rl)⟩
theorem run_key {f : Addr} {fd : FuncData} {ps : List Str} {its : List Value} {pins : List (Addr × Obj)} {σ : VS} {H : Hp} {s : Shared} {Q : VK} {us ws : List Value} {vs zs : List V} {l zl : List MV} {ρ : Nat → Addr} {m : M} (hn : ps.length = n) (G : FnG CX X.prog X.w X.K X.mg X.base k f fd ps F i)
    (B : KBn X.K fd ps np ks (fun us ws => mix us its ws ix) (fun vs zs => mix vs dvs zs ix)) (c : Cv CX X E k) (hdm : ∀ ρ n H, RVs X.K ρ n H dm dvs) (I : Inv X pins σ H s) (r : Vals vs us) (rz : Vals zs ws) (rm : RM X.K ρ m H) (rl : RVs X.K ρ m.n H l vs) (rzl : RVs X.K ρ m.n H zl zs)
    (q : Fin X.K E (RVl X.K) ρ m H (bif l.length.beq np && zl.length.beq ks.length && (mix l dm zl ix).length.beq n then F i (mix l dm zl ix) m else .bad) Q) : wpAny (model X.prog X.w) X.A (call (.ref f) us (ks.zip ws)) (EP X pins σ Q) X.xe s := by
  cases z : l.length.beq np && zl.length.beq ks.length && (mix l dm zl ix).length.beq n with
  | false => rw [z] at q; exact q.elim
  | true =>
    rw [z, cond_true] at q
    rw [Bool.and_eq_true, Bool.and_eq_true] at z
    have rmx := mix_rvs rl (hdm ρ m.n H) rzl ix
    have l1 : us.length = np := by rw [← r.length, ← rvs_len rl]; exact Nat.eq_of_beq_eq_true z.1.1
    have l2 : ws.length = ks.length := by rw [← rz.length, ← rvs_len rzl]; exact Nat.eq_of_beq_eq_true z.1.2
    have l3 : (mix vs dvs zs ix).length = ps.length := by rw [← rvs_len rmx, hn]; exact Nat.eq_of_beq_eq_true z.2
    exact wpAny_call (codeAny_mono (run_fng G c (B.to s us ws I.kIn l1 l2) I (B.rel r rz) l3 ⟨ρ, m, _, rm, rmx, q⟩) fun r s' hq => by
      cases r with
      | error z => exact hq
      | ok fl => cases fl with
        | ret u => exact hq
        | next => exact hq.elim
        | brk => exact hq.elim
        | cont => exact hq.elim)
/-- f(e, .., k = v, ..) -/
theorem d_funK {ca ck : CA} (g : Gn X x) (f : Fkk CX X k F i np ks n ix dvs x) (c : Cv CX X E k) (hdm : ∀ ρ n H, RVs X.K ρ n H dm dvs) (ha : SA X E (e :: es) ca) (hk : SK X E kws ck)
    (hall : (backToKw pos (keywordEach kws X.env)).all (·.1.isSome) = true := by rfl) (hks : (backToKw pos (keywordEach kws X.env)).filterMap (·.1) = ks := by rfl) (he : starEach (e :: es) X.env = (false, eval e X.env) :: starEach es X.env := by rfl)
    (hp : ((backTo pos (starEach (e :: es) X.env)).any (·.1) || (backToKw pos (keywordEach kws X.env)).any (·.1.isNone)) = false := by rfl) :
    SE X E (.Call (.Name x p) (e :: es) kws pos) (cFunK F i np ks.length n ix dm ca ck) := by
  obtain ⟨fd, ps, its, hn, G, B⟩ := f.ex
  refine ⟨fun pins s σ H Q I h => wpAny_Call_Name_kw (ld_glob I g.gl f.at_ ?_ g.db)⟩
  have h2 := tC.two (R := RAl X.K) (R2 := RAl X.K) (c := ca) (d := ck) (f := fun _ l zl m => bif l.length.beq np && zl.length.beq ks.length && (mix l dm zl ix).length.beq n then F i (mix l dm zl ix) m else .bad)
    (P := fun vs zs H2 => ∃ (ρ : Nat → Addr) (m : M) (l zl : List MV), RM X.K ρ m H2 ∧ RVs X.K ρ m.n H2 l vs ∧ RVs X.K ρ m.n H2 zl zs ∧ Fin X.K E (RVl X.K) ρ m H2 (bif l.length.beq np && zl.length.beq ks.length && (mix l dm zl ix).length.beq n then F i (mix l dm zl ix) m else .bad) Q)
    monoL h fun σm l zl m ρ H2 vs zs rm rs rl rz q => ⟨ρ, m, l, zl, rm, rl, rz, q⟩
  refine PySem.W.callWith_KW (h₀ := X.base) I.ok.mod.kin f.kp hall (thn (ha.run pos pins s σ H _ I h2) fun us s1 ⟨vs, H1, I1, r, q⟩ => ?_) hp he
  refine thn (hk.run pos pins s1 σ H1 _ I1 q) fun ws s2 ⟨zs, H2, I2, rz, ρ, m, l, zl, rm, rl, rzl, q2⟩ => ⟨I2.kIn, ?_⟩
  rw [hks]
  exact run_key hn G B c hdm I2 r rz rm rl rzl q2
/-- f(k = v, ..) -/
theorem d_funK0 {ck : CA} (g : Gn X x) (f : Fkk CX X k F i 0 ks n ix dvs x) (c : Cv CX X E k) (hdm : ∀ ρ n H, RVs X.K ρ n H dm dvs) (hk : SK X E kws ck)
    (hall : (backToKw pos (keywordEach kws X.env)).all (·.1.isSome) = true := by rfl) (hks : (backToKw pos (keywordEach kws X.env)).filterMap (·.1) = ks := by rfl)
    (hp : ((backTo pos (starEach [] X.env)).any (·.1) || (backToKw pos (keywordEach kws X.env)).any (·.1.isNone)) = false := by rfl) :
    SE X E (.Call (.Name x p) [] kws pos) (cFunK F i 0 ks.length n ix dm aNil ck) := by
  obtain ⟨fd, ps, its, hn, G, B⟩ := f.ex
  refine ⟨fun pins s σ H Q I h => wpAny_Call_Name_kw (ld_glob I g.gl f.at_ ?_ g.db)⟩
  refine PySem.W.callWith_KW0 (h₀ := X.base) I.ok.mod.kin f.kp hall (thn (hk.run pos pins s σ H _ I (tC.bind (c := ck) (P := fun zs H2 => ∃ (ρ : Nat → Addr) (m : M) (zl : List MV), RM X.K ρ m H2 ∧ RVs X.K ρ m.n H2 zl zs ∧ Fin X.K E (RVl X.K) ρ m H2 (bif ([] : List MV).length.beq 0 && zl.length.beq ks.length && (mix [] dm zl ix).length.beq n then F i (mix [] dm zl ix) m else .bad) Q) h fun σm zl m ρ H2 zs rm rs rz q => ⟨ρ, m, zl, rm, rz, q⟩)) fun ws s2 ⟨zs, H2, I2, rz, ρ, m, zl, rm, rzl, q2⟩ => ⟨I2.kIn, ?_⟩) hp
  rw [hks]
  exact run_key (us := []) (vs := []) (l := []) hn G B c hdm I2 .nil rz rm mk_nil rzl q2
/-- f(e, ..), defaults fill up -/
theorem d_funD {ca : CA} (g : Gn X x) (f : Fkk CX X k F i np [] n ix dvs x) (c : Cv CX X E k) (hdm : ∀ ρ n H, RVs X.K ρ n H dm dvs) (ha : SA X E (e :: es) ca)
    (he : starEach (e :: es) X.env = (false, eval e X.env) :: starEach es X.env := by rfl) (hp : (backTo pos (starEach es X.env)).any (·.1) = false := by rfl) :
    SE X E (.Call (.Name x p) (e :: es) [] pos) (cFunK F i np 0 n ix dm ca aNil) := by
  obtain ⟨fd, ps, its, hn, G, B⟩ := f.ex
  refine ⟨fun pins s σ H Q I h => wpAny_Call_Name_kw (ld_glob I g.gl f.at_ ?_ g.db)⟩
  refine PySem.W.callWith_K (h₀ := X.base) I.ok.mod.kin f.kp (thn (ha.run pos pins s σ H _ I (tC.bind (c := ca) (P := fun vs H2 => ∃ (ρ : Nat → Addr) (m : M) (l : List MV), RM X.K ρ m H2 ∧ RVs X.K ρ m.n H2 l vs ∧ Fin X.K E (RVl X.K) ρ m H2 (bif l.length.beq np && ([] : List MV).length.beq ([] : List Str).length && (mix l dm [] ix).length.beq n then F i (mix l dm [] ix) m else .bad) Q) h fun σm l m ρ H2 vs rm rs rl q => ⟨ρ, m, l, rm, rl, q⟩)) fun us s1 ⟨vs, H1, I1, r, ρ, m, l, rm, rl, q⟩ => ⟨I1.kIn, ?_⟩) he hp
  exact run_key (ks := []) (zs := []) (ws := []) (zl := []) hn G B c hdm I1 r .nil rm rl mk_nil q
end
end Mini

set_option Elab.async false
set_option linter.all false
set_option maxRecDepth 100000
/-! mini: what the generated walks lean on. -/
namespace Mini
open PySem PySem.Spec PyProof.Rows L2

def cDct0 : CE := fun _ m => newO m (.dct [])
section
variable {X : Cx} {E : XK} {x : Str} {pos : Pos} {CX : CXT} {k : Nat}
theorem d_dct0 : SE X E (.Dict [] [] pos) cDct0 := PE.imp pe_dnewK fun σ H Q ⟨ρ, σm, m, rm, rs, q⟩ => fun p np => fin_new q rm np ⟨[], upd_same, rfl⟩
theorem sl (i : Nat) (h : X.N[i]? = some x := by rfl) (v : Vis X.env.scope x := by first | exact Or.inl rfl | exact Or.inr (Or.inl rfl) | exact Or.inr (Or.inr rfl)) (d : (x == ("__debug__" : Str)) = false := by decide) (c : (x == ("__classdict__" : Str)) = false := by decide) : Sl X i x := ⟨h, v, d, c⟩
theorem ld (nd : X.N.Nodup) (i : Nat) (h : X.N[i]? = some x := by rfl) (v : Loc X.env.scope x := by first | exact Or.inl rfl | exact Or.inr rfl) (f : X.fn x = true ∨ X.env.scope.names.lookup x = some .local := by first | exact .inl rfl | exact .inr rfl) : Ld X i x := ⟨nd, h, v, f⟩
theorem gn (g : Gl X x := by rfl) (d : (x == ("__debug__" : Str)) = false := by decide) (n : x ≠ "__name__" := by decide) : Gn X x := ⟨g, d, n⟩
theorem bn (m : X.mg x = none) (g : Gl X x := by rfl) (d : (x == ("__debug__" : Str)) = false := by decide) (n : x ≠ "__name__" := by decide) : Bn X x := ⟨⟨g, d, n⟩, m⟩
end
theorem fng0 {CX : CXT} {P : Program} {w : World} {K : PySem.W.Frag} {mg : Str → Option Value} {base : Heap} {k i : Nat} {f : Addr} {fd : FuncData} {ps : List Str} {F : FT} (h : F i = fun _ _ => .bad) : FnG CX P w K mg base k f fd ps F i :=
  ⟨fun A outer s H args us vs Q E _ _ _ _ _ _ ⟨ρ, m, l, _, _, q⟩ => by rw [h] at q; exact q.elim⟩
end Mini

set_option Elab.async false
set_option linter.all false
set_option maxRecDepth 100000
/-! mini: plain facts for the laws: heaps, the pot of digits, data. -/
namespace Mini
open PySem

theorem get_put_self {m : M} {a : Nat} {o : MO} (h : a < m.n) : (m.put a o).get a = some o := by rw [M.get_put h, if_pos rfl]
theorem get_put_ne {m : M} {a b : Nat} {o : MO} (h : a < m.n) (e : b ≠ a) : (m.put a o).get b = m.get b := by rw [M.get_put h, if_neg e]
theorem get_new_self {m : M} {o : MO} : (m.new o).get m.n = some o := by rw [M.get_new, if_pos rfl]
theorem get_new_old {m : M} {b : Nat} {o o' : MO} (h : m.get b = some o') : (m.new o).get b = some o' := by
  have := M.get_lt h
  rw [M.get_new, if_neg (by omega), h]
/-- all but a stays -/
structure Ext (a : Nat) (m m' : M) : Prop where
  le : m.n ≤ m'.n
  keep : ∀ b o, b ≠ a → m.get b = some o → m'.get b = some o
theorem Ext.refl {a : Nat} {m : M} : Ext a m m := ⟨Nat.le_refl _, fun _ _ _ h => h⟩
theorem Ext.trans {a : Nat} {m m1 m2 : M} (x : Ext a m m1) (y : Ext a m1 m2) : Ext a m m2 := ⟨Nat.le_trans x.le y.le, fun b o e h => y.keep b o e (x.keep b o e h)⟩
theorem Ext.put {a : Nat} {m : M} {o : MO} (h : a < m.n) : Ext a m (m.put a o) := ⟨Nat.le_refl _, fun b o' e g => by rw [get_put_ne h e]; exact g⟩
theorem Ext.new {a : Nat} {m : M} {o : MO} : Ext a m (m.new o) := ⟨Nat.le_succ _, fun b o' e g => get_new_old g⟩
theorem Ext.newPut {a : Nat} {m m1 : M} {o o' : MO} (x : Ext a (m.new o) m1) : Ext a m (m1.put m.n o') := by
  have h : m.n < m1.n := Nat.lt_of_lt_of_le (Nat.lt_succ_self _) x.le
  refine ⟨Nat.le_of_lt h, fun b ob e g => ?_⟩
  have := M.get_lt g
  rw [get_put_ne h (by omega)]
  exact x.keep b ob e (get_new_old g)
/-- the pot of digits -/
def Pot (a : Nat) (m : M) : Prop := ∃ g s : Int, m.get a = some (.lst [.int g, .int s]) ∧ 0 ≤ g ∧ 0 ≤ s ∧ s < 2147483648
theorem Pot.new {a : Nat} {m : M} {o : MO} (p : Pot a m) : Pot a (m.new o) := by
  obtain ⟨g, s, h, r⟩ := p
  exact ⟨g, s, get_new_old h, r⟩
theorem Pot.lt {a : Nat} {m : M} (p : Pot a m) : a < m.n := by
  obtain ⟨g, s, h, r⟩ := p
  exact M.get_lt h
/-- nothing at all is written -/
structure Grow (m m' : M) : Prop where
  le : m.n ≤ m'.n
  keep : ∀ b o, m.get b = some o → m'.get b = some o
theorem Grow.refl {m : M} : Grow m m := ⟨Nat.le_refl _, fun _ _ h => h⟩
theorem Grow.trans {m m1 m2 : M} (x : Grow m m1) (y : Grow m1 m2) : Grow m m2 := ⟨Nat.le_trans x.le y.le, fun b o h => y.keep b o (x.keep b o h)⟩
theorem Grow.new {m : M} {o : MO} : Grow m (m.new o) := ⟨Nat.le_succ _, fun b o' g => get_new_old g⟩
theorem Grow.ext {a : Nat} {m m' : M} (x : Grow m m') : Ext a m m' := ⟨x.le, fun b o _ h => x.keep b o h⟩
theorem Grow.pot {a : Nat} {m m' : M} (x : Grow m m') (p : Pot a m) : Pot a m' := by
  obtain ⟨g, s, h, r⟩ := p
  exact ⟨g, s, x.keep _ _ h, r⟩
theorem Grow.newPut {m m1 : M} {o o' : MO} (x : Grow (m.new o) m1) : Grow m (m1.put m.n o') := by
  have h : m.n < m1.n := Nat.lt_of_lt_of_le (Nat.lt_succ_self _) x.le
  refine ⟨Nat.le_of_lt h, fun b ob g => ?_⟩
  have := M.get_lt g
  rw [get_put_ne h (by omega)]
  exact x.keep b ob (get_new_old g)

theorem posInt_of {i : Int} (h : 0 < i) : posInt i = true := by
  match i, h with
  | .ofNat (k + 1), _ => rfl
theorem blt_of {a b : Nat} (h : a < b) : a.blt b = true := by rw [blt_iff]; exact decide_eq_true h
theorem toNat_small {i : Int} (h : i < 1073741824) : i.toNat.blt 1073741824 = true := blt_of (by omega)
theorem fits_of {n : Nat} (h : n ≤ 16777216) : fits n = true := by unfold fits; exact Nat.ble_eq.mpr h
theorem ofNat_eq {i : Int} (h : 0 ≤ i) : ∃ k : Nat, i = .ofNat k := by
  match i, h with
  | .ofNat k, _ => exact ⟨k, rfl⟩
theorem small64_of {i : Int} (h : 0 ≤ i) (h2 : i < 2147483648) : small64 i = true := by
  obtain ⟨k, rfl⟩ := ofNat_eq h
  unfold small64
  exact blt_of (by show k < _; have h2 : (k : Int) < 2147483648 := h2; omega)
theorem ixM_of {n k : Nat} (h : k < n) : ixM n (.ofNat k) = some k := by
  show (bif k.blt n then some k else none) = _
  rw [blt_of h]; rfl

/-! ### data -/
/-- the values l read as data ds, through lists other than a -/
inductive Dts (a : Nat) (m : M) : List MV → List PyData → Prop
  | nil : Dts a m [] []
  | non {r : List MV} {ds : List PyData} : Dts a m r ds → Dts a m (.non :: r) (.none :: ds)
  | bl {b : Bool} {r : List MV} {ds : List PyData} : Dts a m r ds → Dts a m (.bl b :: r) (.bool b :: ds)
  | int {i : Int} {r : List MV} {ds : List PyData} : Dts a m r ds → Dts a m (.int i :: r) (.int i :: ds)
  | str {x : Str} {r : List MV} {ds : List PyData} : Dts a m r ds → Dts a m (.str x :: r) (.str x :: ds)
  | tup {l r : List MV} {es ds : List PyData} : Dts a m l es → Dts a m r ds → Dts a m (.tup l :: r) (.tuple es :: ds)
  | lst {b : Nat} {l r : List MV} {es ds : List PyData} : b ≠ a → m.get b = some (.lst l) → Dts a m l es → Dts a m r ds → Dts a m (.ref b :: r) (.list es :: ds)
theorem Dts.mono {a : Nat} {m m' : M} (x : Ext a m m') {l : List MV} {ds : List PyData} (h : Dts a m l ds) : Dts a m' l ds := by
  induction h with
  | nil => exact .nil
  | non _ ih => exact .non ih
  | bl _ ih => exact .bl ih
  | int _ ih => exact .int ih
  | str _ ih => exact .str ih
  | tup _ _ i1 i2 => exact .tup i1 i2
  | lst e g _ _ i1 i2 => exact .lst e (x.keep _ _ e g) i1 i2
theorem Dts.app {a : Nat} {m : M} {l k : List MV} {ds es : List PyData} (h : Dts a m l ds) (h2 : Dts a m k es) : Dts a m (l ++ k) (ds ++ es) := by
  induction h with
  | nil => exact h2
  | non _ ih => exact .non ih
  | bl _ ih => exact .bl ih
  | int _ ih => exact .int ih
  | str _ ih => exact .str ih
  | tup u _ _ i2 => exact .tup u i2
  | lst e g u _ _ i2 => exact .lst e g u i2
/-- the first item, the rest -/
theorem Dts.uncons {a : Nat} {m : M} {v : MV} {l : List MV} {ds : List PyData} (h : Dts a m (v :: l) ds) : ∃ d es, ds = d :: es ∧ Dts a m [v] [d] ∧ Dts a m l es := by
  cases h with
  | non u => exact ⟨_, _, rfl, .non .nil, u⟩
  | bl u => exact ⟨_, _, rfl, .bl .nil, u⟩
  | int u => exact ⟨_, _, rfl, .int .nil, u⟩
  | str u => exact ⟨_, _, rfl, .str .nil, u⟩
  | tup w u => exact ⟨_, _, rfl, .tup w .nil, u⟩
  | lst e g w u => exact ⟨_, _, rfl, .lst e g w .nil, u⟩
theorem mapO_c {α β : Type} {g : α → Option β} {x : α} {y : β} {r : List α} {ys : List β} (h : g x = some y) (h2 : mapO g r = some ys) : mapO g (x :: r) = some (y :: ys) := by
  simp only [mapO, h, h2]
theorem Dts.toD {a : Nat} {m : M} {l : List MV} {ds : List PyData} (h : Dts a m l ds) : ∀ f : Nat, PyData.depthAll ds < f → mapO (Mini.toD m f) l = some ds := by
  have pos : ∀ {n f : Nat}, n < f → ∃ k, f = k + 1 := fun {n f} h => ⟨f - 1, by omega⟩
  induction h with
  | nil => intro f _; rfl
  | non _ ih => intro f hf; obtain ⟨f, rfl⟩ := pos hf; simp only [PyData.depthAll, PyData.depth] at hf; exact mapO_c rfl (ih (f + 1) (by omega))
  | bl _ ih => intro f hf; obtain ⟨f, rfl⟩ := pos hf; simp only [PyData.depthAll, PyData.depth] at hf; exact mapO_c rfl (ih (f + 1) (by omega))
  | int _ ih => intro f hf; obtain ⟨f, rfl⟩ := pos hf; simp only [PyData.depthAll, PyData.depth] at hf; exact mapO_c rfl (ih (f + 1) (by omega))
  | str _ ih => intro f hf; obtain ⟨f, rfl⟩ := pos hf; simp only [PyData.depthAll, PyData.depth] at hf; exact mapO_c rfl (ih (f + 1) (by omega))
  | tup _ _ i1 i2 =>
    intro f hf; obtain ⟨f, rfl⟩ := pos hf; simp only [PyData.depthAll, PyData.depth] at hf
    have q := i1 f (by omega)
    exact mapO_c (by simp only [Mini.toD, q]) (i2 (f + 1) (by omega))
  | lst e g _ _ i1 i2 =>
    intro f hf; obtain ⟨f, rfl⟩ := pos hf; simp only [PyData.depthAll, PyData.depth] at hf
    have q := i1 f (by omega)
    exact mapO_c (by simp only [Mini.toD, g, q]) (i2 (f + 1) (by omega))
/-- data that may be shown and compared -/
structure Nd (ds : List PyData) (w h : Nat) : Prop where
  short : PyData.leavesShortAll 22 ds = true
  show_ : PyData.showableAll ds = true
  lay : PyData.canLayAll0 ds = true
  wt : PyData.weightAll ds ≤ w
  dp : PyData.depthAll ds ≤ h
theorem short_app : ∀ (ds es : List PyData), PyData.leavesShortAll 22 (ds ++ es) = (PyData.leavesShortAll 22 ds && PyData.leavesShortAll 22 es)
  | [], es => by simp [PyData.leavesShortAll]
  | d :: ds, es => by simp only [List.cons_append, PyData.leavesShortAll, short_app ds es, Bool.and_assoc]
theorem show_app : ∀ (ds es : List PyData), PyData.showableAll (ds ++ es) = (PyData.showableAll ds && PyData.showableAll es)
  | [], es => by simp [PyData.showableAll]
  | d :: ds, es => by simp only [List.cons_append, PyData.showableAll, show_app ds es, Bool.and_assoc]
theorem lay_app : ∀ (ds es : List PyData), PyData.canLayAll0 (ds ++ es) = (PyData.canLayAll0 ds && PyData.canLayAll0 es)
  | [], es => by simp [PyData.canLayAll0]
  | d :: ds, es => by simp only [List.cons_append, PyData.canLayAll0, lay_app ds es, Bool.and_assoc]
theorem wt_app : ∀ (ds es : List PyData), PyData.weightAll (ds ++ es) = PyData.weightAll ds + PyData.weightAll es
  | [], es => by simp [PyData.weightAll]
  | d :: ds, es => by simp only [List.cons_append, PyData.weightAll, wt_app ds es]; omega
theorem dp_app : ∀ (ds es : List PyData), PyData.depthAll (ds ++ es) = max (PyData.depthAll ds) (PyData.depthAll es)
  | [], es => by simp [PyData.depthAll]
  | d :: ds, es => by simp only [List.cons_append, PyData.depthAll, dp_app ds es]; omega
/-- items that read as such data -/
def Nice (a : Nat) (m : M) (l : List MV) (w h : Nat) : Prop := ∃ ds, Dts a m l ds ∧ Nd ds w h
section
variable {a : Nat} {m m' : M} {l k : List MV} {v : MV} {w h w2 h2 : Nat}
theorem Nice.mono (x : Ext a m m') (n : Nice a m l w h) : Nice a m' l w h := n.elim fun ds z => ⟨ds, z.1.mono x, z.2⟩
theorem Nice.le (n : Nice a m l w h) (hw : w ≤ w2) (hh : h ≤ h2) : Nice a m l w2 h2 := n.elim fun ds z => ⟨ds, z.1, z.2.short, z.2.show_, z.2.lay, Nat.le_trans z.2.wt hw, Nat.le_trans z.2.dp hh⟩
theorem Nice.nil : Nice a m [] 0 0 := ⟨[], .nil, rfl, rfl, rfl, Nat.le_refl _, Nat.le_refl _⟩
theorem Nice.app (n : Nice a m l w h) (n2 : Nice a m k w2 h2) : Nice a m (l ++ k) (w + w2) (max h h2) := by
  obtain ⟨ds, d, s1, s2, s3, s4, s5⟩ := n
  obtain ⟨es, e, t1, t2, t3, t4, t5⟩ := n2
  exact ⟨ds ++ es, d.app e, by rw [short_app, s1, t1]; rfl, by rw [show_app, s2, t2]; rfl, by rw [lay_app, s3, t3]; rfl, by rw [wt_app]; omega, by rw [dp_app]; omega⟩
theorem Nice.cons (n : Nice a m [v] w h) (n2 : Nice a m l w2 h2) : Nice a m (v :: l) (w + w2) (max h h2) := n.app n2
theorem Nice.uncons (n : Nice a m (v :: l) w h) : Nice a m [v] w h ∧ Nice a m l w h := by
  obtain ⟨ds, d, s1, s2, s3, s4, s5⟩ := n
  obtain ⟨e, es, rfl, d1, d2⟩ := d.uncons
  simp only [PyData.leavesShortAll, PyData.showableAll, PyData.canLayAll0, PyData.weightAll, PyData.depthAll, Bool.and_eq_true] at s1 s2 s3 s4 s5
  exact ⟨⟨[e], d1, by simp only [PyData.leavesShortAll, s1.1, Bool.and_true], by simp only [PyData.showableAll, s2.1, Bool.and_true], by simp only [PyData.canLayAll0, s3.1, Bool.and_true], by simp only [PyData.weightAll]; omega, by simp only [PyData.depthAll]; omega⟩,
    ⟨es, d2, s1.2, s2.2, s3.2, by omega, by omega⟩⟩
theorem Nice.tup (n : Nice a m l w h) : Nice a m [.tup l] (w + 1) (h + 1) := by
  obtain ⟨ds, d, s1, s2, s3, s4, s5⟩ := n
  exact ⟨[.tuple ds], .tup d .nil, by simp only [PyData.leavesShortAll, PyData.leavesShort, s1, Bool.and_true], by simp only [PyData.showableAll, PyData.showable, s2, Bool.and_true], by simp only [PyData.canLayAll0, PyData.canLay0, s3, Bool.and_true],
    by simp only [PyData.weightAll, PyData.weight]; omega, by simp only [PyData.depthAll, PyData.depth]; omega⟩
theorem Nice.lst {b : Nat} (e : b ≠ a) (g : m.get b = some (.lst l)) (n : Nice a m l w h) : Nice a m [.ref b] (w + 1) (h + 1) := by
  obtain ⟨ds, d, s1, s2, s3, s4, s5⟩ := n
  exact ⟨[.list ds], .lst e g d .nil, by simp only [PyData.leavesShortAll, PyData.leavesShort, s1, Bool.and_true], by simp only [PyData.showableAll, PyData.showable, s2, Bool.and_true], by simp only [PyData.canLayAll0, PyData.canLay0, s3, Bool.and_true],
    by simp only [PyData.weightAll, PyData.weight]; omega, by simp only [PyData.depthAll, PyData.depth]; omega⟩
/-- what stands in a tuple: nearer to the leaves -/
theorem Nice.items (n : Nice a m [.tup l] w h) : ∃ h0, h = h0 + 1 ∧ Nice a m l w h0 := by
  obtain ⟨ds, d, s1, s2, s3, s4, s5⟩ := n
  cases d with
  | tup u z =>
    cases z
    simp only [PyData.leavesShortAll, PyData.leavesShort, PyData.showableAll, PyData.showable, PyData.canLayAll0, PyData.canLay0, PyData.weightAll, PyData.weight, PyData.depthAll, PyData.depth, Bool.and_true] at s1 s2 s3 s4 s5
    exact ⟨h - 1, by omega, _, u, s1, s2, s3, by omega, by omega⟩
theorem Nice.drop (n : Nice a m l w h) : ∀ j : Nat, Nice a m (l.drop j) w h := fun j => by
  induction j generalizing l with
  | zero => exact n
  | succ j ih => cases l with
    | nil => exact n
    | cons v r => exact ih n.uncons.2
theorem Nice.at (n : Nice a m l w h) {i : Nat} (e : at? l i = some v) : Nice a m [v] w h := by
  induction l generalizing i with
  | nil => cases e
  | cons x r ih => cases i with
    | zero => cases e; exact n.uncons.1
    | succ i => exact ih n.uncons.2 e
theorem Nice.take (n : Nice a m l w h) : ∀ j : Nat, Nice a m (l.take j) w h := fun j => by
  obtain ⟨ds, d, s1, s2, s3, s4, s5⟩ := n
  have key : ∀ (j : Nat) {l : List MV} {ds : List PyData}, Dts a m l ds → Dts a m (l.take j) (ds.take j) := by
    intro j
    induction j with
    | zero => intro l ds _; simp only [List.take_zero]; exact .nil
    | succ j ih => intro l ds d; cases d with
      | nil => exact .nil
      | non u => exact .non (ih u)
      | bl u => exact .bl (ih u)
      | int u => exact .int (ih u)
      | str u => exact .str (ih u)
      | tup z u => exact .tup z (ih u)
      | lst e g z u => exact .lst e g z (ih u)
  have sp : ds = ds.take j ++ ds.drop j := (List.take_append_drop j ds).symm
  rw [sp, short_app, Bool.and_eq_true] at s1
  rw [sp, show_app, Bool.and_eq_true] at s2
  rw [sp, lay_app, Bool.and_eq_true] at s3
  rw [sp, wt_app] at s4
  rw [sp, dp_app] at s5
  exact ⟨ds.take j, key j d, s1.1, s2.1, s3.1, by omega, by omega⟩
/-- a value that may be shown -/
theorem Nice.repr (n : Nice a m [v] w h) (hw : w ≤ 600000) (hh : h ≤ 60) : ∃ d, Dts a m [v] [d] ∧ Mini.toD m deepest v = some d ∧ isNoDict m v = false ∧ (d.showable && Mini.fits d.shown.length) = true ∧ SeqAt.shaped d = true := by
  obtain ⟨ds, d, s1, s2, s3, s4, s5⟩ := n
  obtain ⟨e, es, rfl, d1, d2⟩ := d.uncons
  cases d2
  have z := d.toD 70 (by omega)
  simp only [mapO] at z
  simp only [PyData.leavesShortAll, PyData.showableAll, PyData.canLayAll0, PyData.weightAll, PyData.depthAll, Bool.and_true] at s1 s2 s3 s4 s5
  refine ⟨e, d, ?_, ?_, ?_, ?_⟩
  · show Mini.toD m 70 v = some e
    cases q : Mini.toD m 70 v with
    | none => rw [q] at z; cases z
    | some y => rw [q] at z; cases z; rfl
  · cases d with
    | lst ne g _ _ => simp only [isNoDict, g]
    | _ => rfl
  · rw [s2, Bool.true_and]
    have := PyData.shown_le 22 (by decide) e s1
    exact fits_of (by omega)
  · unfold SeqAt.shaped
    rw [s3, Bool.true_and]
    exact decide_eq_true (by omega)
/-- the forms of a value that may be shown -/
inductive Fm (m : M) : MV → Prop
  | non : Fm m .non
  | bl (b : Bool) : Fm m (.bl b)
  | int (i : Int) : Fm m (.int i)
  | str (x : Str) : Fm m (.str x)
  | tup (l : List MV) : Fm m (.tup l)
  | lst (b : Nat) (l : List MV) (g : m.get b = some (.lst l)) : Fm m (.ref b)
theorem Nice.form (n : Nice a m [v] w h) : Fm m v := by
  obtain ⟨ds, d, _⟩ := n
  cases d with
  | non _ => exact .non
  | bl _ => exact .bl _
  | int _ => exact .int _
  | str _ => exact .str _
  | tup _ _ => exact .tup _
  | lst _ g _ _ => exact .lst _ _ g
theorem shaped_nil : SeqAt.shaped (.tuple []) = true := rfl
/-- t == () of a tuple -/
theorem eq_unit (n : Nice a m [.tup l] w h) (hw : w ≤ 600000) (hh : h ≤ 60) : eqM m (.tup l) (.tup []) = some l.isEmpty := by
  obtain ⟨d, d1, e1, _, _, sh⟩ := n.repr hw hh
  cases d1 with
  | @tup _ _ es _ u _ =>
    have e2 : Mini.toD m deepest (.tup []) = some (.tuple []) := rfl
    show (match Mini.toD m deepest (.tup l), Mini.toD m deepest (.tup []) with
      | some d, some e => bif SeqAt.shaped d && SeqAt.shaped e then some (PyData.eqv d e) else none
      | _, _ => none) = _
    rw [e1, e2]
    show (bif SeqAt.shaped (.tuple es) && SeqAt.shaped (.tuple []) then _ else _) = _
    rw [sh, shaped_nil]
    show some (PyData.eqv (.tuple es) (.tuple [])) = _
    cases u <;> rfl
end

theorem eq_str {x y : Str} {m : M} : oEq (.str x) (.str y) m = .ok (.bl (strEq x y)) m := rfl
theorem eq_int {x y : Int} {m : M} : oEq (.int x) (.int y) m = .ok (.bl (decide (x = y))) m := rfl
theorem ne_str {x y : Str} {m : M} : oNe (.str x) (.str y) m = .ok (.bl (!strEq x y)) m := rfl
theorem ne_int {x y : Int} {m : M} : oNe (.int x) (.int y) m = .ok (.bl (!decide (x = y))) m := rfl
theorem nat_beq (n : Nat) : n.beq n = true := Nat.beq_refl n
end Mini

set_option Elab.async false
set_option linter.all false
set_option maxRecDepth 100000
/-! mini: evaluation from the left, as rewriting (printed by mkev.py). -/
namespace Mini
open PySem
section
variable {α β : Type} {σ τ : S} {m : M} {x y z v : MV} {xs zs l vs : List MV} {f g : Op2} {u : MV → M → Rs MV} {fa : Ap} {a b c o i : CE} {t t2 : CT} {r ak : CA} {F : FT} {n np nk j : Nat} {ix : List (Nat × Nat)} {dm : List MV} {ts : List Ty} {lo hi : CO} {p q : CS} {tg : CG} {tgs : CGs} {is : List Nat} {k : Int} {oi oj : Option Int}
theorem of_some {w : α} : Rs.of (some w) m = .ok w m := rfl
theorem v_lit : cLit v σ m = .ok v m := rfl
theorem v_var : cVar j σ m = Rs.of (nth σ j) m := rfl
theorem v_nil : aNil σ m = .ok [] m := rfl
theorem v_dct0 : cDct0 σ m = .ok (.ref m.n) (m.new (.dct [])) := rfl
theorem v_none : oNone σ m = .ok none m := rfl
theorem x_nil : sNil σ m = .ok (.nx σ) m := rfl
theorem x_cont : sCont σ m = .ok (.ct σ) m := rfl
theorem y_nm : gNm j v σ m = .ok (setN (some v) σ j) m := rfl
theorem y_nil : gsNil [] σ m = .ok σ m := rfl
def bin2 (f : Op2) (x : MV) (w : Rs MV) : Rs MV := w.bind fun y m2 => f x y m2
theorem g_bin20 : bin2 f x (.ok y m) = f x y m := rfl
def bin1 (f : Op2) (w : Rs MV) (b : CE) (σ : S) : Rs MV := w.bind fun x m1 => bin2 f x (b σ m1)
theorem e_bin1 : cBin f a b σ m = bin1 f (a σ m) b σ := rfl
theorem g_bin10 : bin1 f (.ok x m) b σ = bin2 f x (b σ m) := rfl
def un1 (u : MV → M → Rs MV) (w : Rs MV) : Rs MV := w.bind u
theorem e_un1 : cUn u a σ m = un1 u (a σ m) := rfl
theorem g_un10 : un1 u (.ok x m) = u x m := rfl
def cons2 (x : MV) (w : Rs (List MV)) : Rs (List MV) := w.bind fun xs m2 => .ok (x :: xs) m2
theorem g_cons20 : cons2 x (.ok xs m) = .ok (x :: xs) m := rfl
def cons1 (w : Rs MV) (r : CA) (σ : S) : Rs (List MV) := w.bind fun x m1 => cons2 x (r σ m1)
theorem e_cons1 : aCons a r σ m = cons1 (a σ m) r σ := rfl
theorem g_cons10 : cons1 (.ok x m) r σ = cons2 x (r σ m) := rfl
def tup2 (k : Bool) (xs : List MV) (m : M) : Rs MV := bif k then .ok (.tup xs) m else .bad
theorem g_tup20 : tup2 true xs m = .ok (.tup xs) m := rfl
def tup1 (w : Rs (List MV)) : Rs MV := w.bind fun xs m1 => tup2 (fits xs.length) xs m1
theorem e_tup1 : cTup r σ m = tup1 (r σ m) := rfl
theorem g_tup10 : tup1 (.ok xs m) = tup2 (fits xs.length) xs m := rfl
def lst2 (k : Bool) (xs : List MV) (m : M) : Rs MV := bif k then .ok (.ref m.n) (m.new (.lst xs)) else .bad
theorem g_lst20 : lst2 true xs m = .ok (.ref m.n) (m.new (.lst xs)) := rfl
def lst1 (w : Rs (List MV)) : Rs MV := w.bind fun xs m1 => lst2 (fits xs.length) xs m1
theorem e_lst1 : cLst r σ m = lst1 (r σ m) := rfl
theorem g_lst10 : lst1 (.ok xs m) = lst2 (fits xs.length) xs m := rfl
def fun2 (k : Bool) (F : FT) (j : Nat) (xs : List MV) (m : M) : Rs MV := bif k then F j xs m else .bad
theorem g_fun20 : fun2 true F j xs m = F j xs m := rfl
def fun1 (F : FT) (j n : Nat) (w : Rs (List MV)) : Rs MV := w.bind fun xs m1 => fun2 (xs.length.beq n) F j xs m1
theorem e_fun1 : cFun F j n r σ m = fun1 F j n (r σ m) := rfl
theorem g_fun10 : fun1 F j n (.ok xs m) = fun2 (xs.length.beq n) F j xs m := rfl
def key2 (F : FT) (j np nk n : Nat) (ix : List (Nat × Nat)) (dm xs : List MV) (w : Rs (List MV)) : Rs MV := w.bind fun zs m2 => fun2 (xs.length.beq np && zs.length.beq nk && (mix xs dm zs ix).length.beq n) F j (mix xs dm zs ix) m2
theorem g_key20 : key2 F j np nk n ix dm xs (.ok zs m) = fun2 (xs.length.beq np && zs.length.beq nk && (mix xs dm zs ix).length.beq n) F j (mix xs dm zs ix) m := rfl
def key1 (F : FT) (j np nk n : Nat) (ix : List (Nat × Nat)) (dm : List MV) (w : Rs (List MV)) (ak : CA) (σ : S) : Rs MV := w.bind fun xs m1 => key2 F j np nk n ix dm xs (ak σ m1)
theorem e_key1 : cFunK F j np nk n ix dm r ak σ m = key1 F j np nk n ix dm (r σ m) ak σ := rfl
theorem g_key10 : key1 F j np nk n ix dm (.ok xs m) ak σ = key2 F j np nk n ix dm xs (ak σ m) := rfl
def ap1 (fa : Ap) (w : Rs (List MV)) : Rs MV := w.bind fun xs m1 => fa xs m1
theorem e_ap1 : cAp fa r σ m = ap1 fa (r σ m) := rfl
theorem g_ap10 : ap1 fa (.ok xs m) = fa xs m := rfl
def pick (w : Rs Bool) (a b : S → M → Rs α) (σ : S) : Rs α := w.bind fun c m1 => bif c then a σ m1 else b σ m1
theorem e_pick : cIf t a b σ m = pick (t σ m) a b σ := rfl
theorem g_pick0 : pick (.ok true m) a b σ = a σ m := rfl
theorem g_pick1 : pick (.ok false m) a b σ = b σ m := rfl
theorem g_pick2 : pick (.ok true m) p q σ = p σ m := rfl
theorem g_pick3 : pick (.ok false m) p q σ = q σ m := rfl
theorem e_sif : sIf t p q σ m = pick (t σ m) p q σ := rfl
def and1 (w : Rs MV) (b : CE) (σ : S) : Rs MV := w.bind fun x m1 => match x with | .bl c => bif c then b σ m1 else .ok (.bl false) m1 | _ => .bad
theorem e_and1 : cAnd a b σ m = and1 (a σ m) b σ := rfl
theorem g_and10 : and1 (.ok (.bl true) m) b σ = b σ m := rfl
theorem g_and11 : and1 (.ok (.bl false) m) b σ = .ok (.bl false) m := rfl
def or1 (w : Rs MV) (b : CE) (σ : S) : Rs MV := w.bind fun x m1 => match x with | .bl c => bif c then .ok (.bl true) m1 else b σ m1 | _ => .bad
theorem e_or1 : cOr a b σ m = or1 (a σ m) b σ := rfl
theorem g_or10 : or1 (.ok (.bl true) m) b σ = .ok (.bl true) m := rfl
theorem g_or11 : or1 (.ok (.bl false) m) b σ = b σ m := rfl
def not1 (w : Rs MV) : Rs MV := w.bind fun x m1 => match x with | .bl c => .ok (.bl (!c)) m1 | _ => .bad
theorem e_not1 : cNot a σ m = not1 (a σ m) := rfl
theorem g_not {c : Bool} : not1 (.ok (.bl c) m) = .ok (.bl (!c)) m := rfl
def chain4 (g : Op2) (y : MV) (w : Rs MV) : Rs MV := w.bind fun z m4 => g y z m4
theorem g_chain40 : chain4 g y (.ok z m) = g y z m := rfl
def chain3 (g : Op2) (y : MV) (w : Rs MV) (c : CE) (σ : S) : Rs MV := w.bind fun z m3 => match z with | .bl k => bif k then chain4 g y (c σ m3) else .ok (.bl false) m3 | _ => .bad
theorem g_chain30 : chain3 g y (.ok (.bl true) m) c σ = chain4 g y (c σ m) := rfl
theorem g_chain31 : chain3 g y (.ok (.bl false) m) c σ = .ok (.bl false) m := rfl
def chain2 (f g : Op2) (x : MV) (w : Rs MV) (c : CE) (σ : S) : Rs MV := w.bind fun y m2 => chain3 g y (f x y m2) c σ
theorem g_chain20 : chain2 f g x (.ok y m) c σ = chain3 g y (f x y m) c σ := rfl
def chain1 (f g : Op2) (w : Rs MV) (b c : CE) (σ : S) : Rs MV := w.bind fun x m1 => chain2 f g x (b σ m1) c σ
theorem e_chain1 : cChain f g a b c σ m = chain1 f g (a σ m) b c σ := rfl
theorem g_chain10 : chain1 f g (.ok x m) b c σ = chain2 f g x (b σ m) c σ := rfl
def val1 (w : Rs MV) : Rs Bool := w.bind fun x m1 => match x with | .bl c => .ok c m1 | _ => .bad
theorem e_val1 : tVal a σ m = val1 (a σ m) := rfl
theorem g_val {c : Bool} : val1 (.ok (.bl c) m) = .ok c m := rfl
def tru1 (w : Rs MV) : Rs Bool := w.bind fun x m1 => .of (truM m1 x) m1
theorem e_tru1 : tTru a σ m = tru1 (a σ m) := rfl
theorem g_tru10 : tru1 (.ok x m) = .of (truM m x) m := rfl
def tand (w : Rs Bool) (t : CT) (σ : S) : Rs Bool := w.bind fun c m1 => bif c then t σ m1 else .ok false m1
theorem e_tand : tAndC t t2 σ m = tand (t σ m) t2 σ := rfl
theorem g_tand0 : tand (.ok true m) t σ = t σ m := rfl
theorem g_tand1 : tand (.ok false m) t σ = .ok false m := rfl
def tor (w : Rs Bool) (t : CT) (σ : S) : Rs Bool := w.bind fun c m1 => bif c then .ok true m1 else t σ m1
theorem e_tor : tOrC t t2 σ m = tor (t σ m) t2 σ := rfl
theorem g_tor0 : tor (.ok true m) t σ = .ok true m := rfl
theorem g_tor1 : tor (.ok false m) t σ = t σ m := rfl
def tnot (w : Rs Bool) : Rs Bool := w.bind fun c m1 => .ok (!c) m1
theorem e_tnot : tNotC t σ m = tnot (t σ m) := rfl
theorem g_tnot {c : Bool} : tnot (.ok c m) = .ok (!c) m := rfl
def isi2 (k : Option Bool) (m : M) : Rs MV := match k with | some b => .ok (.bl b) m | none => .bad
theorem g_isi2 {c : Bool} : isi2 (some c) m = .ok (.bl c) m := rfl
def isi1 (ts : List Ty) (w : Rs MV) : Rs MV := w.bind fun x m1 => isi2 (isTys m1 ts x) m1
theorem e_isi1 : cIsi a ts σ m = isi1 ts (a σ m) := rfl
theorem g_isi10 : isi1 ts (.ok x m) = isi2 (isTys m ts x) m := rfl
def sl3 (x : MV) (oi : Option Int) (w : Rs (Option Int)) : Rs MV := w.bind fun h m3 => slM x oi h m3
theorem g_sl30 : sl3 x oi (.ok oj m) = slM x oi oj m := rfl
def sl2 (x : MV) (w : Rs (Option Int)) (hi : CO) (σ : S) : Rs MV := w.bind fun l m2 => sl3 x l (hi σ m2)
theorem g_sl20 : sl2 x (.ok oi m) hi σ = sl3 x oi (hi σ m) := rfl
def sl1 (w : Rs MV) (lo hi : CO) (σ : S) : Rs MV := w.bind fun x m1 => sl2 x (lo σ m1) hi σ
theorem e_sl1 : cSl a lo hi σ m = sl1 (a σ m) lo hi σ := rfl
theorem g_sl10 : sl1 (.ok x m) lo hi σ = sl2 x (lo σ m) hi σ := rfl
def part1 (w : Rs MV) : Rs (Option Int) := w.bind fun x m1 => match x with | .int i => .ok (some i) m1 | _ => .bad
theorem e_part1 : oPart a σ m = part1 (a σ m) := rfl
theorem g_part10 : part1 (.ok (.int k) m) = .ok (some k) m := rfl
def meA (k : Bool) (u : MV → M → Rs MV) (x : MV) (m : M) : Rs MV := bif k then u x m else .bad
theorem g_meA0 : meA true u x m = u x m := rfl
def me0 (u : MV → M → Rs MV) (w : Rs MV) : Rs MV := w.bind fun x m1 => meA (isLst m1 x) u x m1
theorem e_me0 : cMe0 u a σ m = me0 u (a σ m) := rfl
theorem g_me00 : me0 u (.ok x m) = meA (isLst m x) u x m := rfl
def meB (k : Bool) (f : Op2) (x : MV) (a : CE) (σ : S) (m : M) : Rs MV := bif k then bin2 f x (a σ m) else .bad
theorem g_meB0 : meB true f x a σ m = bin2 f x (a σ m) := rfl
def me1 (f : Op2) (w : Rs MV) (a : CE) (σ : S) : Rs MV := w.bind fun x m1 => meB (isLst m1 x) f x a σ m1
theorem e_me1 : cMe1 f o a σ m = me1 f (o σ m) a σ := rfl
theorem g_me10 : me1 f (.ok x m) a σ = meB (isLst m x) f x a σ m := rfl
def seq1 (w : Rs Fl) (p : CS) : Rs Fl := w.bind fun f m1 => match f with | .nx σ1 => p σ1 m1 | f => .ok f m1
theorem e_seq1 : sSeq p q σ m = seq1 (p σ m) q := rfl
theorem g_seq10 : seq1 (.ok (.nx τ) m) p = p τ m := rfl
theorem g_seq11 : seq1 (.ok (.rt v) m) p = .ok (.rt v) m := rfl
theorem g_seq12 : seq1 (.ok (.ct τ) m) p = .ok (.ct τ) m := rfl
def ret1 (w : Rs MV) : Rs Fl := w.bind fun v m1 => .ok (.rt v) m1
theorem e_ret1 : sRet a σ m = ret1 (a σ m) := rfl
theorem g_ret10 : ret1 (.ok v m) = .ok (.rt v) m := rfl
def expr1 (w : Rs MV) (σ : S) : Rs Fl := w.bind fun _ m1 => .ok (.nx σ) m1
theorem e_expr1 : sExpr a σ m = expr1 (a σ m) σ := rfl
theorem g_expr10 : expr1 (.ok v m) σ = .ok (.nx σ) m := rfl
def asg2 (w : Rs S) : Rs Fl := w.bind fun σ1 m2 => .ok (.nx σ1) m2
theorem g_asg20 : asg2 (.ok τ m) = .ok (.nx τ) m := rfl
def asg1 (w : Rs MV) (tg : CG) (σ : S) : Rs Fl := w.bind fun v m1 => asg2 (tg v σ m1)
theorem e_asg1 : sAsg a tg σ m = asg1 (a σ m) tg σ := rfl
theorem g_asg10 : asg1 (.ok v m) tg σ = asg2 (tg v σ m) := rfl
def par2 (k : Bool) (is : List Nat) (vs : List MV) (σ : S) (m : M) : Rs Fl := bif k then .ok (.nx (setAll σ is vs)) m else .bad
theorem g_par20 : par2 true is vs σ m = .ok (.nx (setAll σ is vs)) m := rfl
def par1 (w : Rs (List MV)) (is : List Nat) (σ : S) : Rs Fl := w.bind fun vs m1 => par2 (vs.length.beq is.length) is vs σ m1
theorem e_par1 : sPar is r σ m = par1 (r σ m) is σ := rfl
theorem g_par10 : par1 (.ok vs m) is σ = par2 (vs.length.beq is.length) is vs σ m := rfl
def gtup (k : Bool) (tgs : CGs) (l : List MV) (σ : S) (m : M) : Rs S := bif k then tgs l σ m else .bad
theorem e_gtup : gTupC n tgs (.tup l) σ m = gtup (l.length.beq n) tgs l σ m := rfl
theorem g_gtup0 : gtup true tgs l σ m = tgs l σ m := rfl
def gs1 (w : Rs S) (tgs : CGs) (vs : List MV) : Rs S := w.bind fun σ1 m1 => tgs vs σ1 m1
theorem e_gs1 : gsCons tg tgs (v :: vs) σ m = gs1 (tg v σ m) tgs vs := rfl
theorem g_gs10 : gs1 (.ok τ m) tgs vs = tgs vs τ m := rfl
def subS (v : MV) (σ : S) : MV → MV → M → Rs S := fun x y m2 => match x, y with
  | .ref a, .int k => match m2.get a with
    | some (.lst l) => (match ixM l.length k with
      | some j => .ok σ (m2.put a (.lst (setN v l j)))
      | none => .bad)
    | _ => .bad
  | _, _ => .bad
def sub2 (x : MV) (w : Rs MV) (v : MV) (σ : S) : Rs S := w.bind fun y m2 => subS v σ x y m2
theorem g_sub20 : sub2 x (.ok y m) v σ = subS v σ x y m := rfl
def sub1 (w : Rs MV) (i : CE) (v : MV) (σ : S) : Rs S := w.bind fun x m1 => sub2 x (i σ m1) v σ
theorem e_sub1 : gSubC o i v σ m = sub1 (o σ m) i v σ := rfl
theorem g_sub10 : sub1 (.ok x m) i v σ = sub2 x (i σ m) v σ := rfl
def run1 (w : Rs Fl) : Rs MV := w.bind fun f m1 => match f with | .nx _ => .ok .non m1 | .rt v => .ok v m1 | _ => .bad
theorem g_run10 : run1 (.ok (.nx τ) m) = .ok .non m := rfl
theorem g_run11 : run1 (.ok (.rt v) m) = .ok v m := rfl
theorem x_run {more : Nat} (h : xs.length.beq n = true) : runB n more p xs m = run1 (p (mkS xs more) m) := by unfold runB; rw [h]; rfl
theorem add_ii {k2 : Int} : oAdd (.int k) (.int k2) m = .ok (.int (k + k2)) m := rfl
theorem ixt0 : oIx (.tup (x :: l)) (.int 0) m = .ok x m := rfl
theorem ixt1 : oIx (.tup (x :: y :: l)) (.int 1) m = .ok y m := rfl
theorem ixt2 : oIx (.tup (x :: y :: z :: l)) (.int 2) m = .ok z m := rfl
theorem len_t0 : bLen [.tup []] m = .ok (.int 0) m := rfl
theorem len_t1 : bLen [.tup [x]] m = .ok (.int 1) m := rfl
theorem len_t2 : bLen [.tup [x, y]] m = .ok (.int 2) m := rfl
theorem len_t3 : bLen [.tup [x, y, z]] m = .ok (.int 3) m := rfl
theorem len_t {l : List MV} : bLen [.tup l] m = .ok (.int l.length) m := rfl
theorem len_t4 {k : Int} {v : MV} (h : k ≤ 3) : decide (((x :: y :: z :: v :: l).length : Int) = k) = false := decide_eq_false (by simp only [List.length_cons]; omega)
end
end Mini

set_option Elab.async false
set_option linter.all false
set_option maxRecDepth 100000
/-! mini: comprehensions and loops, evaluated. -/
namespace Mini
open PySem
/-- what may happen to the heap on the way -/
structure Way (P : M → M → Prop) : Prop where
  refl : ∀ m, P m m
  trans : ∀ {a b c}, P a b → P b c → P a c
  newPut : ∀ {m m1 : M} {o o' : MO}, P (m.new o) m1 → P m (m1.put m.n o')
  new : ∀ {m : M} {o : MO}, P m (m.new o)
  lt : ∀ {m m1 : M}, P m m1 → m.n ≤ m1.n
theorem way_grow : Way Grow := ⟨fun _ => .refl, fun h k => h.trans k, fun h => h.newPut, .new, fun h => h.le⟩
theorem way_ext {a : Nat} : Way (Ext a) := ⟨fun _ => .refl, fun h k => h.trans k, fun h => h.newPut, .new, fun h => h.le⟩
inductive All2 (Q : MV → MV → Prop) : List MV → List MV → Prop
  | nil : All2 Q [] []
  | cons {v y : MV} {l ys : List MV} : Q v y → All2 Q l ys → All2 Q (v :: l) (y :: ys)
theorem All2.len {Q : MV → MV → Prop} {l ys : List MV} (h : All2 Q l ys) : l.length = ys.length := by
  induction h with
  | nil => rfl
  | cons _ _ ih => rw [List.length_cons, List.length_cons, ih]
theorem All2.imp {Q Q' : MV → MV → Prop} (k : ∀ v y, Q v y → Q' v y) {l ys : List MV} (h : All2 Q l ys) : All2 Q' l ys := by
  induction h with
  | nil => exact .nil
  | cons a _ ih => exact .cons (k _ _ a) ih
section
variable {P : M → M → Prop} {Q : M → MV → MV → Prop} (W : Way P) (mono : ∀ {m m' v y}, P m m' → Q m v y → Q m' v y) {J : It} {i : Nat} {t : CT} {e : CE} {σ0 : S} {T : MV → Bool}
include W mono
/-- the items, each tested, each computed: the results Rl are told by a relation -/
theorem comp_vals {m : M} : ∀ (l pre : List MV) (m1 : M), (∀ j m v, at? (pre ++ l) j = some v → J.at j m = some v) → (∀ j m, J.fin j m = true) → P m m1 → (∀ v ∈ l, ∀ m1, P m m1 → t (setN (some v) σ0 i) m1 = .ok (T v) m1 ∧ (T v = true → ∃ y m2, e (setN (some v) σ0 i) m1 = .ok y m2 ∧ P m1 m2 ∧ Q m2 v y)) →
    ∃ ys m2, compL J (gNm i) t e σ0 l.length pre.length m1 = .ok ys m2 ∧ P m1 m2 ∧ All2 (Q m2) (l.filter T) ys
  | [], pre, m1, hJ, hf, h, _ => ⟨[], m1, by show (bif J.fin _ _ then _ else _) = _; rw [hf]; rfl, W.refl _, .nil⟩
  | v :: l, pre, m1, hJ, hf, h, st => by
    obtain ⟨e1, e2⟩ := st v (List.mem_cons_self ..) m1 h
    have at_ : J.at pre.length m1 = some v := hJ _ _ _ (by
      rw [at?_eq, List.getElem?_append_right (Nat.le_refl _), Nat.sub_self]; rfl)
    have assoc : pre ++ v :: l = (pre ++ [v]) ++ l := by simp
    have len : (pre ++ [v]).length = pre.length + 1 := by simp
    have hJ2 : ∀ j m u, at? ((pre ++ [v]) ++ l) j = some u → J.at j m = some u := by rw [← assoc]; exact hJ
    cases q : T v with
    | false =>
      obtain ⟨ys, m2, c, p, f⟩ := comp_vals l (pre ++ [v]) m1 hJ2 hf h fun u hu => st u (List.mem_cons_of_mem _ hu)
      rw [len] at c
      refine ⟨ys, m2, ?_, p, by rw [List.filter_cons_of_neg (by rw [q]; decide)]; exact f⟩
      show (match J.at pre.length m1 with | some v => _ | none => _) = _
      rw [at_]
      show Rs.bind (t (setN (some v) σ0 i) m1) _ = _
      rw [e1, q]
      exact c
    | true =>
      obtain ⟨y, m2, e2, p2, qy⟩ := e2 q
      obtain ⟨ys, m3, c, p, f⟩ := comp_vals l (pre ++ [v]) m2 hJ2 hf (W.trans h p2) fun u hu => st u (List.mem_cons_of_mem _ hu)
      rw [len] at c
      refine ⟨y :: ys, m3, ?_, W.trans p2 p, by rw [List.filter_cons_of_pos q]; exact .cons (mono p qy) f⟩
      show (match J.at pre.length m1 with | some v => _ | none => _) = _
      rw [at_]
      show Rs.bind (t (setN (some v) σ0 i) m1) _ = _
      rw [e1, q]
      show Rs.bind (e (setN (some v) σ0 i) m1) _ = _
      rw [e2]
      show Rs.bind (compL _ _ _ _ _ _ _ m2) _ = _
      rw [c]
      rfl
/-- [e for x in l if t], l the items of a tuple -/
theorem comp_evJ {ci : CI} {own : List Nat} {σ : S} {m : M} {l : List MV} (hi : ci σ m = .ok J m) (hc : J.count = l.length) (hJ : ∀ j m v, at? l j = some v → J.at j m = some v) (hf : ∀ j m, J.fin j m = true) (hl : l.length ≤ 16777216)
    (fin : ∀ m2 v y, P (m.new .hole) m2 → Q m2 v y → ∀ {ys : List MV}, Q (m2.put m.n (.lst ys)) v y)
    (st : ∀ v ∈ l, ∀ m1, P (m.new .hole) m1 → t (setN (some v) (wipeS σ own) i) m1 = .ok (T v) m1 ∧ (T v = true → ∃ y m2, e (setN (some v) (wipeS σ own) i) m1 = .ok y m2 ∧ P m1 m2 ∧ Q m2 v y)) :
    ∃ ys m2, cComp ci (gNm i) t e own σ m = .ok (.ref m.n) m2 ∧ m2.get m.n = some (.lst ys) ∧ P m m2 ∧ All2 (Q m2) (l.filter T) ys := by
  obtain ⟨ys, m2, c, p, f⟩ := comp_vals W mono (σ0 := wipeS σ own) (t := t) (e := e) (i := i) (T := T) (Q := Q) (J := J) l [] (m.new .hole) hJ hf (W.refl _) st
  have lt : m.n < m2.n := Nat.lt_of_lt_of_le (Nat.lt_succ_self _) (W.lt p)
  have len : ys.length ≤ 16777216 := by
    rw [← f.len]
    exact Nat.le_trans (List.length_filter_le _ _) hl
  refine ⟨ys, m2.put m.n (.lst ys), ?_, get_put_self lt, W.newPut p, f.imp fun v y z => fin _ _ _ p z⟩
  show Rs.bind (ci σ m) _ = _
  rw [hi]
  show Rs.bind (noX (compL J (gNm i) t e (wipeS σ own) J.count 0 (m.new .hole))) _ = _
  rw [hc, show compL J (gNm i) t e (wipeS σ own) l.length 0 (m.new .hole) = .ok ys m2 from c]
  show (bif fits ys.length then Rs.ok (MV.ref m.n) (m2.put m.n (.lst ys)) else .bad) = _
  rw [fits_of len]; rfl
theorem comp_ev {ci : CI} {own : List Nat} {σ : S} {m : M} {l : List MV} (hi : ci σ m = .ok (.vals l) m) (hl : l.length ≤ 16777216)
    (fin : ∀ m2 v y, P (m.new .hole) m2 → Q m2 v y → ∀ {ys : List MV}, Q (m2.put m.n (.lst ys)) v y)
    (st : ∀ v ∈ l, ∀ m1, P (m.new .hole) m1 → t (setN (some v) (wipeS σ own) i) m1 = .ok (T v) m1 ∧ (T v = true → ∃ y m2, e (setN (some v) (wipeS σ own) i) m1 = .ok y m2 ∧ P m1 m2 ∧ Q m2 v y)) :
    ∃ ys m2, cComp ci (gNm i) t e own σ m = .ok (.ref m.n) m2 ∧ m2.get m.n = some (.lst ys) ∧ P m m2 ∧ All2 (Q m2) (l.filter T) ys :=
  comp_evJ (Q := Q) (T := T) (i := i) (t := t) (e := e) (own := own) W mono (J := .vals l) hi rfl (fun j m v h => h) (fun _ _ => rfl) hl fin st
end
/-- a loop that goes to its end -/
theorem for_any {J : It} {g : CG} {body : CS} (I : Nat → S → M → Prop) (n : Nat) (st : ∀ i σ m, i < n → I i σ m → ∃ v σ1 m1 σ2 m2, J.at i m = some v ∧ g v σ m = .ok σ1 m1 ∧ body σ1 m1 = .ok (.nx σ2) m2 ∧ I (i + 1) σ2 m2)
    (fin : ∀ σ m, I n σ m → J.fin n m = true) : ∀ k i σ m, i + k = n → I i σ m → ∃ σ' m', forL J g body k i σ m = .ok (.nx σ') m' ∧ I n σ' m'
  | 0, i, σ, m, h, x => by
    have e : i = n := by omega
    subst e
    exact ⟨σ, m, by show (bif J.fin i m then _ else _) = _; rw [fin σ m x]; rfl, x⟩
  | k + 1, i, σ, m, h, x => by
    obtain ⟨v, σ1, m1, σ2, m2, e1, e2, e3, x2⟩ := st i σ m (by omega) x
    obtain ⟨σ', m', e4, x3⟩ := for_any I n st fin k (i + 1) σ2 m2 (by omega) x2
    refine ⟨σ', m', ?_, x3⟩
    show (match J.at i m with | some v => _ | none => _) = _
    rw [e1]
    show Rs.bind (g v σ m) _ = _
    rw [e2]
    show Rs.bind (body σ1 m1) _ = _
    rw [e3]
    exact e4
theorem e_iseqT {c : CE} {σ : S} {m m' : M} {l : List MV} (h : c σ m = .ok (.tup l) m') : iSeqC c σ m = .ok (.vals l) m' := by unfold iSeqC; rw [h]; rfl
theorem cut1 {x : MV} {r : List MV} : cutM (x :: r) (some 1) none = r := by
  unfold cutM
  have e : HT.sIx (x :: r).length 0 (some 1) = 1 := (HT.sIx_nat (x :: r).length 0 1).trans (by rw [List.length_cons]; omega)
  rw [e, HT.sIx_none, List.length_cons]
  show (List.drop 1 (x :: r)).take (r.length + 1 - 1) = r
  simp
theorem e_irng {c : CE} {σ : S} {m m' : M} {j : Int} (h : c σ m = .ok (.int j) m') (hj : small62 j = true) : iRng1 c σ m = .ok (.rng 0 j.toNat) m' := by unfold iRng1; rw [h]; show (bif small62 j then _ else _) = _; rw [hj]; rfl
theorem cut_take {l : List MV} {n : Nat} (h : n ≤ l.length) : cutM l none (some (n : Int)) = l.take n := by
  unfold cutM
  rw [HT.sIx_none, HT.sIx_nat, List.drop_zero, Nat.sub_zero, Nat.min_eq_left h]
theorem cut_drop {l : List MV} {n : Nat} : cutM l (some (n : Int)) none = l.drop n := by
  unfold cutM
  rw [HT.sIx_none, HT.sIx_nat]
  rcases Nat.lt_or_ge n l.length with h | h
  · rw [Nat.min_eq_left (Nat.le_of_lt h), List.take_of_length_le (by rw [List.length_drop]; omega)]
  · rw [Nat.min_eq_right h, Nat.sub_self, List.take_zero, List.drop_eq_nil_of_le h]
theorem ix_l {b : Nat} {m : M} {l : List MV} {r : Int} (g : m.get b = some (.lst l)) (h0 : 0 ≤ r) (h1 : r < l.length) : ∃ x, oIx (.ref b) (.int r) m = .ok x m ∧ at? l r.toNat = some x := by
  obtain ⟨k, rfl⟩ := ofNat_eq h0
  have hk : k < l.length := by have h1 : (k : Int) < l.length := h1; omega
  have e : at? l k = some l[k] := by rw [at?_eq, List.getElem?_eq_getElem hk]
  exact ⟨l[k], by simp only [oIx, seqM, g, ixM_of hk, e, Rs.of], e⟩
theorem ix_f {b : Nat} {m : M} {l : List MV} {r : Nat} (g : m.get b = some (.frz l)) (h1 : r < l.length) : ∃ x, oIx (.ref b) (.int r) m = .ok x m ∧ at? l r = some x := by
  have e : at? l r = some l[r] := by rw [at?_eq, List.getElem?_eq_getElem h1]
  exact ⟨l[r], by simp only [oIx, seqM, g, show ixM l.length (r : Int) = some r from ixM_of h1, e, Rs.of], e⟩
theorem len_l {b : Nat} {m : M} {l : List MV} (g : m.get b = some (.lst l)) : bLen [.ref b] m = .ok (.int l.length) m := by simp only [bLen, seqM, g]
theorem len_f {b : Nat} {m : M} {l : List MV} (g : m.get b = some (.frz l)) : bLen [.ref b] m = .ok (.int l.length) m := by simp only [bLen, seqM, g]
theorem all_2 {b : Nat} {m : M} {p q : Bool} (h : m.get b = some (.lst [.bl p, .bl q])) : bAll [.ref b] m = .ok (.bl (p && (q && true))) m := by
  simp only [bAll, lstM, h, blsOf, allB]
theorem sum_0 {b : Nat} {m : M} (h : m.get b = some (.lst [])) : bSum [.ref b] m = .ok (.int 0) m := by
  simp only [bSum, lstM, h, intsOf, sumL]
theorem sum_2 {b : Nat} {m : M} {p q : Int} (h : m.get b = some (.lst [.int p, .int q])) : bSum [.ref b] m = .ok (.int (p + (q + 0))) m := by
  simp only [bSum, lstM, h, intsOf, sumL]
theorem max_l {b : Nat} {m : M} {p : Int} {l : List MV} {ns : List Int} (h : m.get b = some (.lst (.int p :: l))) (hn : intsOf l = some ns) : bMax [.ref b] m = .ok (.int (maxL p ns)) m := by
  simp only [bMax, lstM, h, intsOf, hn]
end Mini

set_option Elab.async false
set_option linter.all false
set_option maxRecDepth 100000
set_option maxHeartbeats 0
namespace W_k11
open PySem PySem.Spec PyProof.Rows L2 Mini
def top (i : Nat) : Stmt := PySem.Challenge.pw_hasprograms_k11_any_value_as_kind.main.body.getD i (.Pass ⟨0, 0, 0, 0⟩)
def t_DOUBLE : List MV := [(.str ("pair" : Str)), (.str ("sum" : Str)), (.str ("fun" : Str))]
def c_is_integer (F : FT) : CS :=
  (sRet (cAnd (cIsi (cVar 0) [.int]) (cNot (cIsi (cVar 0) [.bool]))))
def c_is_count (F : FT) : CS :=
  (sRet (cAnd (cFun F 0 1 (aCons (cVar 0) aNil)) (cBin oGe (cVar 0) (cLit (.int 0)))))
def c_is_shaped (F : FT) : CS :=
  (sSeq (sIf (tOrC (tVal (cBin oLt (cVar 1) (cLit (.int 1)))) (tOrC (tNotC (tTru (cIsi (cVar 0) [.tuple]))) (tOrC (tVal (cBin oEq (cVar 0) (cTup aNil))) (tNotC (tTru (cIsi (cBin oIx (cVar 0) (cLit (.int 0))) [.str])))))) (sRet (cLit (.bl false))) sNil) (sSeq (sIf (tVal (cBin oEq (cBin oIx (cVar 0) (cLit (.int 0))) (cLit (.str ("letter" : Str))))) (sRet (cAnd (cBin oEq (cAp bLen (aCons (cVar 0) aNil)) (cLit (.int 2))) (cAnd (cFun F 1 1 (aCons (cBin oIx (cVar 0) (cLit (.int 1))) aNil)) (cBin oLe (cBin oIx (cVar 0) (cLit (.int 1))) (cLit (.int 5)))))) sNil) (sSeq (sIf (tVal (cBin oEq (cBin oIx (cVar 0) (cLit (.int 0))) (cLit (.str ("one" : Str))))) (sRet (cBin oEq (cAp bLen (aCons (cVar 0) aNil)) (cLit (.int 1)))) sNil) (sSeq (sIf (tOrC (tVal (cBin (oIn true) (cBin oIx (cVar 0) (cLit (.int 0))) (cLit (.tup t_DOUBLE)))) (tVal (cBin oNe (cAp bLen (aCons (cVar 0) aNil)) (cLit (.int 3))))) (sRet (cLit (.bl false))) sNil) (sRet (cAnd (cFun F 2 2 (aCons (cBin oIx (cVar 0) (cLit (.int 1))) (aCons (cBin oSub (cVar 1) (cLit (.int 1))) aNil))) (cFun F 2 2 (aCons (cBin oIx (cVar 0) (cLit (.int 2))) (aCons (cBin oSub (cVar 1) (cLit (.int 1))) aNil)))))))))
def c_signs_of (F : FT) : CS :=
  (sRet (cIf (tVal (cBin (oIn true) (cBin oIx (cVar 0) (cLit (.int 0))) (cLit (.tup t_DOUBLE)))) (cLit (.int 1)) (cBin oAdd (cBin oAdd (cLit (.int 1)) (cFun F 3 1 (aCons (cBin oIx (cVar 0) (cLit (.int 1))) aNil))) (cFun F 3 1 (aCons (cBin oIx (cVar 0) (cLit (.int 2))) aNil)))))
def c_is_kind (F : FT) : CS :=
  (sRet (cAnd (cFun F 2 2 (aCons (cVar 0) (aCons (cLit (.int 12)) aNil))) (cBin oLe (cFun F 3 1 (aCons (cVar 0) aNil)) (cLit (.int 60)))))
def c_is_a_kind (F : FT) : CS :=
  (sRet (cFun F 4 1 (aCons (cVar 0) aNil)))
def c__law_pot (F : FT) : CS :=
  (sSeq (sAsg (cBin oAdd (cBin oMul (cLit (.int 1013)) (cVar 1)) (cLit (.int 9209))) (gNm 2)) (sSeq (sIf (tVal (cBin oLt (cVar 1) (cAp bLen (aCons (cVar 0) aNil)))) (sAsg (cAp bAbs (aCons (cBin oIx (cVar 0) (cVar 1)) aNil)) (gNm 2)) sNil) (sRet (cLst (aCons (cAp bMax2 (aCons (cLit (.int 0)) (aCons (cBin oSub (cVar 2) (cBin oPow (cLit (.int 10)) (cLit (.int 18)))) aNil))) (aCons (cBin oAdd (cBin oMod (cAp bInt (aCons (cBin oAdd (cBin oAdd (cBin oMul (cBin oMod (cAp bInt (aCons (cVar 2) aNil)) (cLit (.int 2147483549))) (cLit (.int 40014))) (cBin oMul (cLit (.int 9209)) (cVar 1))) (cLit (.int 61))) aNil)) (cLit (.int 2147483563))) (cLit (.int 1))) aNil))))))
def c__law_draw (F : FT) : CS :=
  (sSeq (sIf (tVal (cBin oGt (cBin oIx (cVar 0) (cLit (.int 0))) (cLit (.int 0)))) (sSeq (sAsg (cAp bDivmod (aCons (cBin oIx (cVar 0) (cLit (.int 0))) (aCons (cVar 1) aNil))) (gTupC 2 (gsCons (gSubC (cVar 0) (cLit (.int 0))) (gsCons (gNm 2) gsNil)))) (sRet (cVar 2))) sNil) (sSeq (sAsg (cBin oMod (cAp bInt (aCons (cBin oAdd (cBin oMul (cBin oIx (cVar 0) (cLit (.int 1))) (cLit (.int 39373))) (cLit (.int 1019))) aNil)) (cLit (.int 2147483587))) (gSubC (cVar 0) (cLit (.int 1)))) (sRet (cBin oMod (cAp bInt (aCons (cBin oDiv (cBin oMod (cAp bInt (aCons (cBin oMul (cBin oIx (cVar 0) (cLit (.int 1))) (cBin oIx (cVar 0) (cLit (.int 1)))) aNil)) (cLit (.int 2147483563))) (cLit (.int 19))) aNil)) (cVar 1)))))
def c__law_pick (F : FT) : CS :=
  (sRet (cBin oIx (cVar 1) (cFun F 7 2 (aCons (cVar 0) (aCons (cAp bLen (aCons (cVar 1) aNil)) aNil)))))
def c__law_kind (F : FT) : CS :=
  (sSeq (sAsg (cIf (tVal (cBin oGt (cVar 2) (cLit (.int 1)))) (cFun F 7 2 (aCons (cVar 0) (aCons (cLit (.int 6)) aNil))) (cLit (.int 5))) (gNm 3)) (sSeq (sIf (tVal (cBin oGt (cVar 3) (cLit (.int 3)))) (sRet (cIf (tVal (cBin oGt (cFun F 7 2 (aCons (cVar 0) (aCons (cLit (.int 7)) aNil))) (cLit (.int 0)))) (cTup (aCons (cLit (.str ("letter" : Str))) (aCons (cFun F 7 2 (aCons (cVar 0) (aCons (cVar 1) aNil))) aNil))) (cTup (aCons (cLit (.str ("one" : Str))) aNil)))) sNil) (sSeq (sAsg (cBin oIx (cLst (aCons (cLit (.str ("fun" : Str))) (aCons (cLit (.str ("pair" : Str))) (aCons (cLit (.str ("sum" : Str))) (aCons (cLit (.str ("fun" : Str))) aNil))))) (cVar 3)) (gNm 4)) (sRet (cTup (aCons (cVar 4) (aCons (cFun F 9 3 (aCons (cVar 0) (aCons (cVar 1) (aCons (cBin oSub (cVar 2) (cLit (.int 1))) aNil)))) (aCons (cFun F 9 3 (aCons (cVar 0) (aCons (cVar 1) (aCons (cBin oSub (cVar 2) (cLit (.int 1))) aNil)))) aNil))))))))
def c__law_signs (F : FT) : CS :=
  (sRet (cBin oAdd (cLit (.int 1)) (cAp bSum (aCons (cComp (iSeqC (cSl (cVar 0) (oPart (cLit (.int 1))) oNone)) (gNm 1) (tTru (cIsi (cVar 1) [.tuple])) (cFun F 10 1 (aCons (cVar 1) aNil)) [1]) aNil))))
def c__law_deep (F : FT) : CS :=
  (sRet (cBin oAdd (cLit (.int 1)) (cAp bMax (aCons (cBin oAdd (cLst (aCons (cLit (.int 0)) aNil)) (cComp (iSeqC (cSl (cVar 0) (oPart (cLit (.int 1))) oNone)) (gNm 1) (tTru (cIsi (cVar 1) [.tuple])) (cFun F 11 1 (aCons (cVar 1) aNil)) [1])) aNil))))
def c__law_look (F : FT) : CS :=
  (sSeq (sIf (tOrC (tNotC (tTru (cIsi (cVar 0) [.tuple]))) (tOrC (tVal (cBin oEq (cAp bLen (aCons (cVar 0) aNil)) (cLit (.int 0)))) (tNotC (tTru (cIsi (cBin oIx (cVar 0) (cLit (.int 0))) [.str]))))) (sRet (cLit (.bl false))) sNil) (sSeq (sIf (tVal (cBin oEq (cBin oIx (cVar 0) (cLit (.int 0))) (cLit (.str ("one" : Str))))) (sRet (cBin oEq (cAp bLen (aCons (cVar 0) aNil)) (cLit (.int 1)))) sNil) (sSeq (sIf (tVal (cBin oEq (cBin oIx (cVar 0) (cLit (.int 0))) (cLit (.str ("letter" : Str))))) (sSeq (sIf (tOrC (tVal (cBin oNe (cAp bLen (aCons (cVar 0) aNil)) (cLit (.int 2)))) (tOrC (tNotC (tTru (cIsi (cBin oIx (cVar 0) (cLit (.int 1))) [.int]))) (tTru (cIsi (cBin oIx (cVar 0) (cLit (.int 1))) [.bool])))) (sRet (cLit (.bl false))) sNil) (sRet (cChain oLe oLe (cLit (.int 0)) (cBin oIx (cVar 0) (cLit (.int 1))) (cLit (.int 5))))) sNil) (sRet (cAnd (cBin (oIn false) (cBin oIx (cVar 0) (cLit (.int 0))) (cTup (aCons (cLit (.str ("pair" : Str))) (aCons (cLit (.str ("sum" : Str))) (aCons (cLit (.str ("fun" : Str))) aNil))))) (cAnd (cBin oEq (cAp bLen (aCons (cVar 0) aNil)) (cLit (.int 3))) (cAp bAll (aCons (cComp (iSeqC (cSl (cVar 0) (oPart (cLit (.int 1))) oNone)) (gNm 1) tYesC (cFun F 12 1 (aCons (cVar 1) aNil)) [1]) aNil))))))))
def c__law_is_kind (F : FT) : CS :=
  (sRet (cAnd (cFun F 12 1 (aCons (cVar 0) aNil)) (cAnd (cBin oLe (cFun F 10 1 (aCons (cVar 0) aNil)) (cLit (.int 60))) (cBin oLe (cFun F 11 1 (aCons (cVar 0) aNil)) (cLit (.int 12))))))
def c__law_bent (F : FT) : CS :=
  (sSeq (sAsg (cBin oAdd (cLit (.int 1)) (cFun F 7 2 (aCons (cVar 0) (aCons (cAp bLen (aCons (cVar 1) aNil)) aNil)))) (gNm 2)) (sSeq (sIf (tAndC (tVal (cBin oLt (cVar 2) (cAp bLen (aCons (cVar 1) aNil)))) (tAndC (tTru (cIsi (cBin oIx (cVar 1) (cVar 2)) [.tuple])) (tVal (cBin oGt (cFun F 7 2 (aCons (cVar 0) (aCons (cLit (.int 4)) aNil))) (cLit (.int 0)))))) (sRet (cBin oAdd (cBin oAdd (cSl (cVar 1) oNone (oPart (cVar 2))) (cTup (aCons (cFun F 14 2 (aCons (cVar 0) (aCons (cBin oIx (cVar 1) (cVar 2)) aNil))) aNil))) (cSl (cVar 1) (oPart (cBin oAdd (cVar 2) (cLit (.int 1)))) oNone))) sNil) (sSeq (sAsg (cLst (aCons (cLit .non) (aCons (cLit (.bl true)) (aCons (cLit (.bl false)) (aCons (cUn uNeg (cLit (.int 1))) (aCons (cLit (.int 0)) (aCons (cLit (.int 5)) (aCons (cLit (.int 6)) (aCons (cLit (.str ("one" : Str))) (aCons (cLit (.str ("" : Str))) (aCons (cTup (aCons (cLit (.str ("one" : Str))) aNil)) (aCons (cTup (aCons (cLit (.str ("letter" : Str))) (aCons (cLit (.int 0)) aNil))) (aCons (cLst aNil) (aCons (cTup aNil) (aCons (cLst (aCons (cLit (.str ("one" : Str))) aNil)) (aCons (cBin oPow (cLit (.int 10)) (cLit (.int 20))) aNil)))))))))))))))) (gNm 3)) (sSeq (sPar [4, 5, 6] (aCons (cFun F 8 2 (aCons (cVar 0) (aCons (cVar 3) aNil))) (aCons (cSl (cVar 1) oNone (oPart (cVar 2))) (aCons (cSl (cVar 1) (oPart (cBin oAdd (cVar 2) (cLit (.int 1)))) oNone) aNil)))) (sSeq (sAsg (cFun F 8 2 (aCons (cVar 0) (aCons (cLst (aCons (cLit (.str ("one" : Str))) (aCons (cLit (.str ("letter" : Str))) (aCons (cLit (.str ("pair" : Str))) (aCons (cLit (.str ("sum" : Str))) (aCons (cLit (.str ("fun" : Str))) (aCons (cLit (.str ("Fun" : Str))) (aCons (cLit (.str ("both" : Str))) (aCons (cLit (.str ("" : Str))) aNil))))))))) aNil))) (gNm 7)) (sSeq (sAsg (cLst (aCons (cBin oAdd (cBin oAdd (cVar 5) (cTup (aCons (cVar 4) aNil))) (cSl (cVar 1) (oPart (cVar 2)) oNone)) (aCons (cBin oAdd (cBin oAdd (cVar 5) (cTup (aCons (cVar 4) aNil))) (cVar 6)) (aCons (cBin oAdd (cVar 5) (cVar 6)) (aCons (cAp bList (aCons (cVar 1) aNil)) (aCons (cSl (cVar 1) (oPart (cLit (.int 1))) oNone) (aCons (cBin oAdd (cVar 1) (cSl (cVar 1) (oPart (cLit (.int 1))) oNone)) aNil))))))) (gNm 8)) (sSeq (sAsg (cBin oAdd (cVar 8) (cLst (aCons (cBin oAdd (cTup (aCons (cVar 7) aNil)) (cSl (cVar 1) (oPart (cLit (.int 1))) oNone)) (aCons (cTup (aCons (cVar 1) aNil)) (aCons (cTup (aCons (cLit (.str ("fun" : Str))) (aCons (cVar 1) (aCons (cVar 1) aNil)))) (aCons (cTup (aCons (cLit (.str ("pair" : Str))) (aCons (cVar 1) aNil))) (aCons (cTup (aCons (cLit (.str ("sum" : Str))) (aCons (cVar 1) (aCons (cVar 4) aNil)))) aNil))))))) (gNm 8)) (sRet (cFun F 8 2 (aCons (cVar 0) (aCons (cVar 8) aNil)))))))))))
def c__law_full (F : FT) : CS :=
  (sRet (cIf (tVal (cBin oEq (cVar 0) (cLit (.int 1)))) (cTup (aCons (cLit (.str ("letter" : Str))) (aCons (cLit (.int 1)) aNil))) (cTup (aCons (cLit (.str ("pair" : Str))) (aCons (cFun F 15 1 (aCons (cBin oSub (cVar 0) (cLit (.int 1))) aNil)) (aCons (cFun F 15 1 (aCons (cBin oSub (cVar 0) (cLit (.int 1))) aNil)) aNil))))))
def c__law_row (F : FT) : CS :=
  (sSeq (sAsg (cTup (aCons (cLit (.str ("one" : Str))) aNil)) (gNm 3)) (sSeq (sFor (iRng1 (cVar 1)) (gNm 4) (sSeq (sAsg (cFun F 8 2 (aCons (cVar 0) (aCons (cLst (aCons (cLit (.str ("pair" : Str))) (aCons (cLit (.str ("sum" : Str))) (aCons (cLit (.str ("fun" : Str))) aNil)))) aNil))) (gNm 5)) (sAsg (cIf (tVal (cBin oEq (cFun F 7 2 (aCons (cVar 0) (aCons (cLit (.int 2)) aNil))) (cLit (.int 0)))) (cTup (aCons (cVar 5) (aCons (cVar 2) (aCons (cVar 3) aNil)))) (cTup (aCons (cVar 5) (aCons (cVar 3) (aCons (cVar 2) aNil))))) (gNm 3)))) (sRet (cVar 3))))
def c__law_right (F : FT) : CS :=
  (sSeq (sAsg (cFun F 9 3 (aCons (cVar 0) (aCons (cLit (.int 6)) (aCons (cLit (.int 5)) aNil)))) (gNm 1)) (sSeq (sAsg (cBin oAdd (cLst (aCons (cVar 1) aNil)) (cComp (iRng1 (cLit (.int 20))) (gNm 7) tYesC (cFun F 14 2 (aCons (cVar 0) (aCons (cVar 1) aNil))) [7])) (gNm 2)) (sSeq (sExpr (cMe1 mExtend (cVar 2) (cComp (iSeqC (cTup (aCons (cLit (.int 10)) (aCons (cLit (.int 11)) (aCons (cLit (.int 12)) (aCons (cLit (.int 13)) aNil)))))) (gNm 8) tYesC (cFun F 16 3 (aCons (cVar 0) (aCons (cVar 8) (aCons (cTup (aCons (cLit (.str ("letter" : Str))) (aCons (cLit (.int 5)) aNil))) aNil)))) [8]))) (sSeq (sExpr (cMe1 mExtend (cVar 2) (cComp (iSeqC (cTup (aCons (cLit (.int 6)) (aCons (cLit (.int 7)) (aCons (cLit (.int 8)) aNil))))) (gNm 8) tYesC (cFun F 16 3 (aCons (cVar 0) (aCons (cVar 8) (aCons (cFun F 15 1 (aCons (cLit (.int 3)) aNil)) aNil)))) [8]))) (sSeq (sAsg (cTup (aCons (cLit (.str ("fun" : Str))) (aCons (cFun F 15 1 (aCons (cLit (.int 5)) aNil)) (aCons (cFun F 15 1 (aCons (cLit (.int 4)) aNil)) aNil)))) (gNm 3)) (sSeq (sExpr (cMe1 mExtend (cVar 2) (cLst (aCons (cFun F 15 1 (aCons (cLit (.int 5)) aNil)) (aCons (cTup (aCons (cLit (.str ("fun" : Str))) (aCons (cFun F 15 1 (aCons (cLit (.int 5)) aNil)) (aCons (cFun F 15 1 (aCons (cLit (.int 5)) aNil)) aNil)))) (aCons (cFun F 16 3 (aCons (cVar 0) (aCons (cLit (.int 14)) (aCons (cTup (aCons (cLit (.str ("one" : Str))) aNil)) aNil)))) aNil)))))) (sSeq (sExpr (cMe1 mExtend (cVar 2) (cLst (aCons (cVar 3) (aCons (cTup (aCons (cLit (.str ("sum" : Str))) (aCons (cVar 3) (aCons (cFun F 16 3 (aCons (cVar 0) (aCons (cLit (.int 5)) (aCons (cTup (aCons (cLit (.str ("one" : Str))) aNil)) aNil)))) aNil)))) (aCons (cTup (aCons (cLit (.str ("sum" : Str))) (aCons (cVar 3) (aCons (cFun F 16 3 (aCons (cVar 0) (aCons (cLit (.int 6)) (aCons (cTup (aCons (cLit (.str ("one" : Str))) aNil)) aNil)))) aNil)))) aNil)))))) (sSeq (sFor (iSeqC (cBin oAdd (cVar 2) (cLst (aCons (cLit .non) (aCons (cLit (.int 0)) (aCons (cLit (.str ("" : Str))) (aCons (cLit (.str ("one" : Str))) (aCons (cTup aNil) (aCons (cLst aNil) (aCons cDct0 (aCons (cLit (.bl true)) (aCons (cTup (aCons (cLit (.str ("one" : Str))) aNil)) (aCons (cTup (aCons (cLit (.str ("letter" : Str))) (aCons (cLit (.int 5)) aNil))) (aCons (cTup (aCons (cLit (.str ("letter" : Str))) (aCons (cLit (.int 6)) aNil))) (aCons (cTup (aCons (cTup (aCons (cLit (.str ("one" : Str))) aNil)) aNil)) aNil))))))))))))))) (gNm 4) (sSeq (sPar [5, 6] (aCons (cFun F 13 1 (aCons (cVar 4) aNil)) (aCons (cAp bRepr (aCons (cVar 4) aNil)) aNil))) (sIf (tOrC (tVal (cBin oNe (cAp bRepr (aCons (cLst (aCons (cFun F 5 1 (aCons (cVar 4) aNil)) (aCons (cFunK F 5 0 1 1 [(2, 0)] [] aNil (aCons (cVar 4) aNil)) aNil))) aNil)) (cAp bRepr (aCons (cLst (aCons (cVar 5) (aCons (cVar 5) aNil))) aNil)))) (tVal (cBin oNe (cAp bRepr (aCons (cVar 4) aNil)) (cVar 6)))) (sRet (cLit (.bl false))) sNil))) (sRet (cLit (.bl true)))))))))))
def c_law (F : FT) : CS :=
  (sRet (cAp bAll (aCons (cComp (iRng1 (cAp bMax2 (aCons (cLit (.int 1)) (aCons (cAp bMin2 (aCons (cLit (.int 2)) (aCons (cAp bLen (aCons (cVar 0) aNil)) aNil))) aNil)))) (gNm 1) tYesC (cFun F 17 1 (aCons (cFun F 6 2 (aCons (cVar 0) (aCons (cVar 1) aNil))) aNil)) [1]) aNil)))
def bodies (F : FT) : Nat → List MV → M → Rs MV
  | 0 => runB 1 0 (c_is_integer F)
  | 1 => runB 1 0 (c_is_count F)
  | 2 => runB 2 0 (c_is_shaped F)
  | 3 => runB 1 0 (c_signs_of F)
  | 4 => runB 1 0 (c_is_kind F)
  | 5 => runB 1 0 (c_is_a_kind F)
  | 6 => runB 2 1 (c__law_pot F)
  | 7 => runB 2 1 (c__law_draw F)
  | 8 => runB 2 0 (c__law_pick F)
  | 9 => runB 3 2 (c__law_kind F)
  | 10 => runB 1 1 (c__law_signs F)
  | 11 => runB 1 1 (c__law_deep F)
  | 12 => runB 1 1 (c__law_look F)
  | 13 => runB 1 0 (c__law_is_kind F)
  | 14 => runB 2 7 (c__law_bent F)
  | 15 => runB 1 0 (c__law_full F)
  | 16 => runB 3 3 (c__law_row F)
  | 17 => runB 1 8 (c__law_right F)
  | 18 => runB 1 1 (c_law F)
  | _ => fun _ _ => .bad
structure Wd (CX : CXT) (P : Program) (w : World) (K : PySem.W.Frag) (mg : Str → Option Value) (base : Heap) (k : Nat) (F : FT) : Prop where
  n_abs : mg "abs" = none
  n_all : mg "all" = none
  n_bool : mg "bool" = none
  n_divmod : mg "divmod" = none
  n_int : mg "int" = none
  n_isinstance : mg "isinstance" = none
  n_len : mg "len" = none
  n_list : mg "list" = none
  n_max : mg "max" = none
  n_min : mg "min" = none
  n_range : mg "range" = none
  n_repr : mg "repr" = none
  n_str : mg "str" = none
  n_sum : mg "sum" = none
  n_tuple : mg "tuple" = none
  t_DOUBLE : mg "DOUBLE" = some (.ref (He.ga K "DOUBLE")) ∧ ∀ H, SqT K H (He.ga K "DOUBLE") (t_DOUBLE.map flatOf)
  s_LETTER : ∃ t, mg "LETTER" = some (.str "letter" t)
  i_MOST_DEEP : ∃ t, mg "MOST_DEEP" = some (.int 12 t)
  i_MOST_LETTER : ∃ t, mg "MOST_LETTER" = some (.int 5 t)
  i_MOST_SIGNS : ∃ t, mg "MOST_SIGNS" = some (.int 60 t)
  s_ONE : ∃ t, mg "ONE" = some (.str "one" t)
  f_is_integer : FkB CX P w K mg base k F 0 1 "is_integer"
  f_is_count : FkB CX P w K mg base k F 1 1 "is_count"
  f_is_shaped : FkB CX P w K mg base k F 2 2 "is_shaped"
  f_signs_of : FkB CX P w K mg base k F 3 1 "signs_of"
  f_is_kind : FkB CX P w K mg base k F 4 1 "is_kind"
  f_is_a_kind : FkB CX P w K mg base k F 5 1 "is_a_kind"
  f__law_pot : FkB CX P w K mg base k F 6 2 "_law_pot"
  f__law_draw : FkB CX P w K mg base k F 7 2 "_law_draw"
  f__law_pick : FkB CX P w K mg base k F 8 2 "_law_pick"
  f__law_kind : FkB CX P w K mg base k F 9 3 "_law_kind"
  f__law_signs : FkB CX P w K mg base k F 10 1 "_law_signs"
  f__law_deep : FkB CX P w K mg base k F 11 1 "_law_deep"
  f__law_look : FkB CX P w K mg base k F 12 1 "_law_look"
  f__law_is_kind : FkB CX P w K mg base k F 13 1 "_law_is_kind"
  f__law_bent : FkB CX P w K mg base k F 14 2 "_law_bent"
  f__law_full : FkB CX P w K mg base k F 15 1 "_law_full"
  f__law_row : FkB CX P w K mg base k F 16 3 "_law_row"
  f__law_right : FkB CX P w K mg base k F 17 1 "_law_right"
  f_law : FkB CX P w K mg base k F 18 1 "law"
  k_is_a_kind_0_value : FkkB CX P w K mg base k F 5 0 ["value"] 1 [(2, 0)] [] "is_a_kind"
section
variable {CX : CXT} {P : Program} {w : World} {K : PySem.W.Frag} {mg : Str → Option Value} {base : Heap} {k : Nat} {F : FT}
theorem sc_is_integer : FnScope ["value"] ["value"] (defScope (top 1)) := ⟨rfl, rfl, rfl, by decide +kernel, rfl, by decide +kernel, by decide +kernel⟩
theorem b_is_integer {v : World} (w : Wd CX P v K mg base k F) {f : Addr} {cdv : Value} {A : Around} {outer : List Env} {s : Shared} {H : Hp} {E : XK} (cv : Cv CX (cxOf CX P v K mg base ["value"] "is_integer" (defScope (top 1)) f cdv A outer s H E) E k) (cvb : ∀ {X : Cx} {E : XK}, Cv CX X E k → ∀ {s H sc en fp}, Cv CX (X.blk s H sc en fp) E0 k)
    (own : PassesOwn (model P v) (cxOf CX P v K mg base ["value"] "is_integer" (defScope (top 1)) f cdv A outer s H E).A (cxOf CX P v K mg base ["value"] "is_integer" (defScope (top 1)) f cdv A outer s H E).env (cxOf CX P v K mg base ["value"] "is_integer" (defScope (top 1)) f cdv A outer s H E).xe) : SB (cxOf CX P v K mg base ["value"] "is_integer" (defScope (top 1)) f cdv A outer s H E) E (defBody (top 1)) (c_is_integer F) :=
  have nd := sc_is_integer.nd
  (b_one (s_ret (d_and (d_isi (t := .int) (d_var (sl 0)) (bn w.n_isinstance) bb_isinstance (bn w.n_int) bb_int) (d_one (d_not (d_isi (t := .bool) (d_var (sl 0)) (bn w.n_isinstance) bb_isinstance (bn w.n_bool) bb_bool))))))
theorem sc_is_count : FnScope ["value"] ["value"] (defScope (top 2)) := ⟨rfl, rfl, rfl, by decide +kernel, rfl, by decide +kernel, by decide +kernel⟩
theorem b_is_count {v : World} (w : Wd CX P v K mg base k F) {f : Addr} {cdv : Value} {A : Around} {outer : List Env} {s : Shared} {H : Hp} {E : XK} (cv : Cv CX (cxOf CX P v K mg base ["value"] "is_count" (defScope (top 2)) f cdv A outer s H E) E k) (cvb : ∀ {X : Cx} {E : XK}, Cv CX X E k → ∀ {s H sc en fp}, Cv CX (X.blk s H sc en fp) E0 k)
    (own : PassesOwn (model P v) (cxOf CX P v K mg base ["value"] "is_count" (defScope (top 2)) f cdv A outer s H E).A (cxOf CX P v K mg base ["value"] "is_count" (defScope (top 2)) f cdv A outer s H E).env (cxOf CX P v K mg base ["value"] "is_count" (defScope (top 2)) f cdv A outer s H E).xe) : SB (cxOf CX P v K mg base ["value"] "is_count" (defScope (top 2)) f cdv A outer s H E) E (defBody (top 2)) (c_is_count F) :=
  have nd := sc_is_count.nd
  (b_one (s_ret (d_and (d_fun gn w.f_is_integer cv (a_cons (d_var (sl 0)) a_nil)) (d_one (d_cmp om_ge (d_var (sl 0)) d_int rfl)))))
theorem sc_is_shaped : FnScope ["value", "deep"] ["value", "deep"] (defScope (top 13)) := ⟨rfl, rfl, rfl, by decide +kernel, rfl, by decide +kernel, by decide +kernel⟩
theorem b_is_shaped {v : World} (w : Wd CX P v K mg base k F) {f : Addr} {cdv : Value} {A : Around} {outer : List Env} {s : Shared} {H : Hp} {E : XK} (cv : Cv CX (cxOf CX P v K mg base ["value", "deep"] "is_shaped" (defScope (top 13)) f cdv A outer s H E) E k) (cvb : ∀ {X : Cx} {E : XK}, Cv CX X E k → ∀ {s H sc en fp}, Cv CX (X.blk s H sc en fp) E0 k)
    (own : PassesOwn (model P v) (cxOf CX P v K mg base ["value", "deep"] "is_shaped" (defScope (top 13)) f cdv A outer s H E).A (cxOf CX P v K mg base ["value", "deep"] "is_shaped" (defScope (top 13)) f cdv A outer s H E).env (cxOf CX P v K mg base ["value", "deep"] "is_shaped" (defScope (top 13)) f cdv A outer s H E).xe) : SB (cxOf CX P v K mg base ["value", "deep"] "is_shaped" (defScope (top 13)) f cdv A outer s H E) E (defBody (top 13)) (c_is_shaped F) :=
  have nd := sc_is_shaped.nd
  (b_cons (s_if (t_w (w_or (t_cmp om_lt (d_var (sl 1)) d_int rfl) (w_or (t_not (t_tru (d_isi (t := .tuple) (d_var (sl 0)) (bn w.n_isinstance) bb_isinstance (bn w.n_tuple) bb_tuple) (by intro _; rfl))) (w_or (t_cmp (om_eq cv) (d_var (sl 0)) (d_tup a_nil) rfl) (w_or1 (t_not (t_tru (d_isi (t := .str) (d_ix (d_var (sl 0)) d_int (by intro _ _; rfl)) (bn w.n_isinstance) bb_isinstance (bn w.n_str) bb_str) (by intro _; rfl)))))))) (b_one (s_ret d_bl)) b_nil) (b_cons (s_if (t_cmp (om_eq cv) (d_ix (d_var (sl 0)) d_int (by intro _ _; rfl)) (d_gStr gn w.s_LETTER) rfl) (b_one (s_ret (d_and (d_cmp (om_eq cv) (d_blt ap_len (bn w.n_len) bb_len (a_cons (d_var (sl 0)) a_nil)) d_int rfl) (d_and (d_fun gn w.f_is_count cv (a_cons (d_ix (d_var (sl 0)) d_int (by intro _ _; rfl)) a_nil)) (d_one (d_cmp om_le (d_ix (d_var (sl 0)) d_int (by intro _ _; rfl)) (d_gInt gn w.i_MOST_LETTER) rfl)))))) b_nil) (b_cons (s_if (t_cmp (om_eq cv) (d_ix (d_var (sl 0)) d_int (by intro _ _; rfl)) (d_gStr gn w.s_ONE) rfl) (b_one (s_ret (d_cmp (om_eq cv) (d_blt ap_len (bn w.n_len) bb_len (a_cons (d_var (sl 0)) a_nil)) d_int rfl))) b_nil) (b_cons (s_if (t_w (w_or (t_cmp om_notIn (d_ix (d_var (sl 0)) d_int (by intro _ _; rfl)) (d_gTup gn w.t_DOUBLE.1 w.t_DOUBLE.2 rfl) rfl) (w_or1 (t_cmp (om_ne cv) (d_blt ap_len (bn w.n_len) bb_len (a_cons (d_var (sl 0)) a_nil)) d_int rfl)))) (b_one (s_ret d_bl)) b_nil) (b_one (s_ret (d_and (d_fun gn w.f_is_shaped cv (a_cons (d_ix (d_var (sl 0)) d_int (by intro _ _; rfl)) (a_cons (d_bin om_sub (d_var (sl 1)) d_int) a_nil))) (d_one (d_fun gn w.f_is_shaped cv (a_cons (d_ix (d_var (sl 0)) d_int (by intro _ _; rfl)) (a_cons (d_bin om_sub (d_var (sl 1)) d_int) a_nil)))))))))))
theorem sc_signs_of : FnScope ["kind"] ["kind"] (defScope (top 14)) := ⟨rfl, rfl, rfl, by decide +kernel, rfl, by decide +kernel, by decide +kernel⟩
theorem b_signs_of {v : World} (w : Wd CX P v K mg base k F) {f : Addr} {cdv : Value} {A : Around} {outer : List Env} {s : Shared} {H : Hp} {E : XK} (cv : Cv CX (cxOf CX P v K mg base ["kind"] "signs_of" (defScope (top 14)) f cdv A outer s H E) E k) (cvb : ∀ {X : Cx} {E : XK}, Cv CX X E k → ∀ {s H sc en fp}, Cv CX (X.blk s H sc en fp) E0 k)
    (own : PassesOwn (model P v) (cxOf CX P v K mg base ["kind"] "signs_of" (defScope (top 14)) f cdv A outer s H E).A (cxOf CX P v K mg base ["kind"] "signs_of" (defScope (top 14)) f cdv A outer s H E).env (cxOf CX P v K mg base ["kind"] "signs_of" (defScope (top 14)) f cdv A outer s H E).xe) : SB (cxOf CX P v K mg base ["kind"] "signs_of" (defScope (top 14)) f cdv A outer s H E) E (defBody (top 14)) (c_signs_of F) :=
  have nd := sc_signs_of.nd
  (b_one (s_ret (d_if (t_cmp om_notIn (d_ix (d_var (sl 0)) d_int (by intro _ _; rfl)) (d_gTup gn w.t_DOUBLE.1 w.t_DOUBLE.2 rfl) rfl) d_int (d_bin om_add (d_bin om_add d_int (d_fun gn w.f_signs_of cv (a_cons (d_ix (d_var (sl 0)) d_int (by intro _ _; rfl)) a_nil))) (d_fun gn w.f_signs_of cv (a_cons (d_ix (d_var (sl 0)) d_int (by intro _ _; rfl)) a_nil))))))
theorem sc_is_kind : FnScope ["value"] ["value"] (defScope (top 15)) := ⟨rfl, rfl, rfl, by decide +kernel, rfl, by decide +kernel, by decide +kernel⟩
theorem b_is_kind {v : World} (w : Wd CX P v K mg base k F) {f : Addr} {cdv : Value} {A : Around} {outer : List Env} {s : Shared} {H : Hp} {E : XK} (cv : Cv CX (cxOf CX P v K mg base ["value"] "is_kind" (defScope (top 15)) f cdv A outer s H E) E k) (cvb : ∀ {X : Cx} {E : XK}, Cv CX X E k → ∀ {s H sc en fp}, Cv CX (X.blk s H sc en fp) E0 k)
    (own : PassesOwn (model P v) (cxOf CX P v K mg base ["value"] "is_kind" (defScope (top 15)) f cdv A outer s H E).A (cxOf CX P v K mg base ["value"] "is_kind" (defScope (top 15)) f cdv A outer s H E).env (cxOf CX P v K mg base ["value"] "is_kind" (defScope (top 15)) f cdv A outer s H E).xe) : SB (cxOf CX P v K mg base ["value"] "is_kind" (defScope (top 15)) f cdv A outer s H E) E (defBody (top 15)) (c_is_kind F) :=
  have nd := sc_is_kind.nd
  (b_one (s_ret (d_and (d_fun gn w.f_is_shaped cv (a_cons (d_var (sl 0)) (a_cons (d_gInt gn w.i_MOST_DEEP) a_nil))) (d_one (d_cmp om_le (d_fun gn w.f_signs_of cv (a_cons (d_var (sl 0)) a_nil)) (d_gInt gn w.i_MOST_SIGNS) rfl)))))
theorem sc_is_a_kind : FnScope ["value"] ["value"] (defScope (top 16)) := ⟨rfl, rfl, rfl, by decide +kernel, rfl, by decide +kernel, by decide +kernel⟩
theorem b_is_a_kind {v : World} (w : Wd CX P v K mg base k F) {f : Addr} {cdv : Value} {A : Around} {outer : List Env} {s : Shared} {H : Hp} {E : XK} (cv : Cv CX (cxOf CX P v K mg base ["value"] "is_a_kind" (defScope (top 16)) f cdv A outer s H E) E k) (cvb : ∀ {X : Cx} {E : XK}, Cv CX X E k → ∀ {s H sc en fp}, Cv CX (X.blk s H sc en fp) E0 k)
    (own : PassesOwn (model P v) (cxOf CX P v K mg base ["value"] "is_a_kind" (defScope (top 16)) f cdv A outer s H E).A (cxOf CX P v K mg base ["value"] "is_a_kind" (defScope (top 16)) f cdv A outer s H E).env (cxOf CX P v K mg base ["value"] "is_a_kind" (defScope (top 16)) f cdv A outer s H E).xe) : SB (cxOf CX P v K mg base ["value"] "is_a_kind" (defScope (top 16)) f cdv A outer s H E) E (defBody (top 16)) (c_is_a_kind F) :=
  have nd := sc_is_a_kind.nd
  (b_one (s_ret (d_fun gn w.f_is_kind cv (a_cons (d_var (sl 0)) a_nil))))
theorem sc__law_pot : FnScope ["script", "k", "cell"] ["script", "k"] (defScope (top 18)) := ⟨rfl, rfl, rfl, by decide +kernel, rfl, by decide +kernel, by decide +kernel⟩
theorem b__law_pot {v : World} (w : Wd CX P v K mg base k F) {f : Addr} {cdv : Value} {A : Around} {outer : List Env} {s : Shared} {H : Hp} {E : XK} (cv : Cv CX (cxOf CX P v K mg base ["script", "k", "cell"] "_law_pot" (defScope (top 18)) f cdv A outer s H E) E k) (cvb : ∀ {X : Cx} {E : XK}, Cv CX X E k → ∀ {s H sc en fp}, Cv CX (X.blk s H sc en fp) E0 k)
    (own : PassesOwn (model P v) (cxOf CX P v K mg base ["script", "k", "cell"] "_law_pot" (defScope (top 18)) f cdv A outer s H E).A (cxOf CX P v K mg base ["script", "k", "cell"] "_law_pot" (defScope (top 18)) f cdv A outer s H E).env (cxOf CX P v K mg base ["script", "k", "cell"] "_law_pot" (defScope (top 18)) f cdv A outer s H E).xe) : SB (cxOf CX P v K mg base ["script", "k", "cell"] "_law_pot" (defScope (top 18)) f cdv A outer s H E) E (defBody (top 18)) (c__law_pot F) :=
  have nd := sc__law_pot.nd
  (b_cons (s_set (ld nd 2) (d_bin om_add (d_bin om_mul d_int (d_var (sl 1))) d_int)) (b_cons (s_if (t_cmp om_lt (d_var (sl 1)) (d_blt ap_len (bn w.n_len) bb_len (a_cons (d_var (sl 0)) a_nil)) rfl) (b_one (s_set (ld nd 2) (d_blt ap_abs (bn w.n_abs) bb_abs (a_cons (d_ix (d_var (sl 0)) (d_var (sl 1)) (by intro _ _; rfl)) a_nil)))) b_nil) (b_one (s_ret (d_lst (a_cons (d_blt (ap_max2 cv) (bn w.n_max) bb_max (a_cons d_int (a_cons (d_bin om_sub (d_var (sl 2)) (d_bin om_pow d_int d_int)) a_nil))) (a_cons (d_bin om_add (d_bin om_mod (d_bty ap_int (bn w.n_int) bb_int (a_cons (d_bin om_add (d_bin om_add (d_bin om_mul (d_bin om_mod (d_bty ap_int (bn w.n_int) bb_int (a_cons (d_var (sl 2)) a_nil)) d_int) d_int) (d_bin om_mul d_int (d_var (sl 1)))) d_int) a_nil)) d_int) d_int) a_nil)))))))
theorem sc__law_draw : FnScope ["pot", "many", "digit"] ["pot", "many"] (defScope (top 19)) := ⟨rfl, rfl, rfl, by decide +kernel, rfl, by decide +kernel, by decide +kernel⟩
theorem b__law_draw {v : World} (w : Wd CX P v K mg base k F) {f : Addr} {cdv : Value} {A : Around} {outer : List Env} {s : Shared} {H : Hp} {E : XK} (cv : Cv CX (cxOf CX P v K mg base ["pot", "many", "digit"] "_law_draw" (defScope (top 19)) f cdv A outer s H E) E k) (cvb : ∀ {X : Cx} {E : XK}, Cv CX X E k → ∀ {s H sc en fp}, Cv CX (X.blk s H sc en fp) E0 k)
    (own : PassesOwn (model P v) (cxOf CX P v K mg base ["pot", "many", "digit"] "_law_draw" (defScope (top 19)) f cdv A outer s H E).A (cxOf CX P v K mg base ["pot", "many", "digit"] "_law_draw" (defScope (top 19)) f cdv A outer s H E).env (cxOf CX P v K mg base ["pot", "many", "digit"] "_law_draw" (defScope (top 19)) f cdv A outer s H E).xe) : SB (cxOf CX P v K mg base ["pot", "many", "digit"] "_law_draw" (defScope (top 19)) f cdv A outer s H E) E (defBody (top 19)) (c__law_draw F) :=
  have nd := sc__law_draw.nd
  (b_cons (s_if (t_cmp om_gt (d_ix (d_var (sl 0)) d_int (by intro _ _; rfl)) d_int rfl) (b_cons (s_asg (d_blt ap_divmod (bn w.n_divmod) bb_divmod (a_cons (d_ix (d_var (sl 0)) d_int (by intro _ _; rfl)) (a_cons (d_var (sl 1)) a_nil))) (g_tup cv.calm (gs_cons (g_sub (d_var (sl 0)) d_int) (gs_cons (g_name (ld nd 2)) gs_nil)))) (b_one (s_ret (d_var (sl 2))))) b_nil) (b_cons (s_asg (d_bin om_mod (d_bty ap_int (bn w.n_int) bb_int (a_cons (d_bin om_add (d_bin om_mul (d_ix (d_var (sl 0)) d_int (by intro _ _; rfl)) d_int) d_int) a_nil)) d_int) (g_sub (d_var (sl 0)) d_int)) (b_one (s_ret (d_bin om_mod (d_bty ap_int (bn w.n_int) bb_int (a_cons (d_bin om_div (d_bin om_mod (d_bty ap_int (bn w.n_int) bb_int (a_cons (d_bin om_mul (d_ix (d_var (sl 0)) d_int (by intro _ _; rfl)) (d_ix (d_var (sl 0)) d_int (by intro _ _; rfl))) a_nil)) d_int) d_int) a_nil)) (d_var (sl 1)))))))
theorem sc__law_pick : FnScope ["pot", "some"] ["pot", "some"] (defScope (top 20)) := ⟨rfl, rfl, rfl, by decide +kernel, rfl, by decide +kernel, by decide +kernel⟩
theorem b__law_pick {v : World} (w : Wd CX P v K mg base k F) {f : Addr} {cdv : Value} {A : Around} {outer : List Env} {s : Shared} {H : Hp} {E : XK} (cv : Cv CX (cxOf CX P v K mg base ["pot", "some"] "_law_pick" (defScope (top 20)) f cdv A outer s H E) E k) (cvb : ∀ {X : Cx} {E : XK}, Cv CX X E k → ∀ {s H sc en fp}, Cv CX (X.blk s H sc en fp) E0 k)
    (own : PassesOwn (model P v) (cxOf CX P v K mg base ["pot", "some"] "_law_pick" (defScope (top 20)) f cdv A outer s H E).A (cxOf CX P v K mg base ["pot", "some"] "_law_pick" (defScope (top 20)) f cdv A outer s H E).env (cxOf CX P v K mg base ["pot", "some"] "_law_pick" (defScope (top 20)) f cdv A outer s H E).xe) : SB (cxOf CX P v K mg base ["pot", "some"] "_law_pick" (defScope (top 20)) f cdv A outer s H E) E (defBody (top 20)) (c__law_pick F) :=
  have nd := sc__law_pick.nd
  (b_one (s_ret (d_ix (d_var (sl 1)) (d_fun gn w.f__law_draw cv (a_cons (d_var (sl 0)) (a_cons (d_blt ap_len (bn w.n_len) bb_len (a_cons (d_var (sl 1)) a_nil)) a_nil))) (by intro _ _; rfl))))
theorem sc__law_kind : FnScope ["pot", "letters", "deep", "way", "word"] ["pot", "letters", "deep"] (defScope (top 22)) := ⟨rfl, rfl, rfl, by decide +kernel, rfl, by decide +kernel, by decide +kernel⟩
theorem b__law_kind {v : World} (w : Wd CX P v K mg base k F) {f : Addr} {cdv : Value} {A : Around} {outer : List Env} {s : Shared} {H : Hp} {E : XK} (cv : Cv CX (cxOf CX P v K mg base ["pot", "letters", "deep", "way", "word"] "_law_kind" (defScope (top 22)) f cdv A outer s H E) E k) (cvb : ∀ {X : Cx} {E : XK}, Cv CX X E k → ∀ {s H sc en fp}, Cv CX (X.blk s H sc en fp) E0 k)
    (own : PassesOwn (model P v) (cxOf CX P v K mg base ["pot", "letters", "deep", "way", "word"] "_law_kind" (defScope (top 22)) f cdv A outer s H E).A (cxOf CX P v K mg base ["pot", "letters", "deep", "way", "word"] "_law_kind" (defScope (top 22)) f cdv A outer s H E).env (cxOf CX P v K mg base ["pot", "letters", "deep", "way", "word"] "_law_kind" (defScope (top 22)) f cdv A outer s H E).xe) : SB (cxOf CX P v K mg base ["pot", "letters", "deep", "way", "word"] "_law_kind" (defScope (top 22)) f cdv A outer s H E) E (defBody (top 22)) (c__law_kind F) :=
  have nd := sc__law_kind.nd
  (b_cons (s_set (ld nd 3) (d_if (t_cmp om_gt (d_var (sl 2)) d_int rfl) (d_fun gn w.f__law_draw cv (a_cons (d_var (sl 0)) (a_cons d_int a_nil))) d_int)) (b_cons (s_if (t_cmp om_gt (d_var (sl 3)) d_int rfl) (b_one (s_ret (d_if (t_cmp om_gt (d_fun gn w.f__law_draw cv (a_cons (d_var (sl 0)) (a_cons d_int a_nil))) d_int rfl) (d_tup (a_cons d_str (a_cons (d_fun gn w.f__law_draw cv (a_cons (d_var (sl 0)) (a_cons (d_var (sl 1)) a_nil))) a_nil))) (d_tup (a_cons d_str a_nil))))) b_nil) (b_cons (s_set (ld nd 4) (d_ix (d_lst (a_cons d_str (a_cons d_str (a_cons d_str (a_cons d_str a_nil))))) (d_var (sl 3)) (by intro _ _; rfl))) (b_one (s_ret (d_tup (a_cons (d_var (sl 4)) (a_cons (d_fun gn w.f__law_kind cv (a_cons (d_var (sl 0)) (a_cons (d_var (sl 1)) (a_cons (d_bin om_sub (d_var (sl 2)) d_int) a_nil)))) (a_cons (d_fun gn w.f__law_kind cv (a_cons (d_var (sl 0)) (a_cons (d_var (sl 1)) (a_cons (d_bin om_sub (d_var (sl 2)) d_int) a_nil)))) a_nil)))))))))
theorem sc__law_signs : FnScope ["kind", "part"] ["kind"] (defScope (top 23)) := ⟨rfl, rfl, rfl, by decide +kernel, rfl, by decide +kernel, by decide +kernel⟩
theorem b__law_signs {v : World} (w : Wd CX P v K mg base k F) {f : Addr} {cdv : Value} {A : Around} {outer : List Env} {s : Shared} {H : Hp} {E : XK} (cv : Cv CX (cxOf CX P v K mg base ["kind", "part"] "_law_signs" (defScope (top 23)) f cdv A outer s H E) E k) (cvb : ∀ {X : Cx} {E : XK}, Cv CX X E k → ∀ {s H sc en fp}, Cv CX (X.blk s H sc en fp) E0 k)
    (own : PassesOwn (model P v) (cxOf CX P v K mg base ["kind", "part"] "_law_signs" (defScope (top 23)) f cdv A outer s H E).A (cxOf CX P v K mg base ["kind", "part"] "_law_signs" (defScope (top 23)) f cdv A outer s H E).env (cxOf CX P v K mg base ["kind", "part"] "_law_signs" (defScope (top 23)) f cdv A outer s H E).xe) : SB (cxOf CX P v K mg base ["kind", "part"] "_law_signs" (defScope (top 23)) f cdv A outer s H E) E (defBody (top 23)) (c__law_signs F) :=
  have nd := sc__law_signs.nd
  (b_one (s_ret (d_bin om_add d_int (d_blt (ap_sum cv) (bn w.n_sum) bb_sum (a_cons (d_comp cv.calm nd (own := [(("part" : Str), 1)]) (i_seq (d_sl (d_var (sl 0)) (o_part d_int) o_none)) (blkOk_by (by kernel_rfl)) (by decide) (fun s H C cl fp => (g_name (ld nd 1))) (fun s H C cl fp => (ts_one (t_tru (d_isi (t := .tuple) (d_var (sl 1)) (bn w.n_isinstance) bb_isinstance (bn w.n_tuple) bb_tuple) (by intro _; rfl)))) (fun s H C cl fp => (d_fun gn w.f__law_signs (cvb cv) (a_cons (d_var (sl 1)) a_nil)))) a_nil)))))
theorem sc__law_deep : FnScope ["kind", "part"] ["kind"] (defScope (top 24)) := ⟨rfl, rfl, rfl, by decide +kernel, rfl, by decide +kernel, by decide +kernel⟩
theorem b__law_deep {v : World} (w : Wd CX P v K mg base k F) {f : Addr} {cdv : Value} {A : Around} {outer : List Env} {s : Shared} {H : Hp} {E : XK} (cv : Cv CX (cxOf CX P v K mg base ["kind", "part"] "_law_deep" (defScope (top 24)) f cdv A outer s H E) E k) (cvb : ∀ {X : Cx} {E : XK}, Cv CX X E k → ∀ {s H sc en fp}, Cv CX (X.blk s H sc en fp) E0 k)
    (own : PassesOwn (model P v) (cxOf CX P v K mg base ["kind", "part"] "_law_deep" (defScope (top 24)) f cdv A outer s H E).A (cxOf CX P v K mg base ["kind", "part"] "_law_deep" (defScope (top 24)) f cdv A outer s H E).env (cxOf CX P v K mg base ["kind", "part"] "_law_deep" (defScope (top 24)) f cdv A outer s H E).xe) : SB (cxOf CX P v K mg base ["kind", "part"] "_law_deep" (defScope (top 24)) f cdv A outer s H E) E (defBody (top 24)) (c__law_deep F) :=
  have nd := sc__law_deep.nd
  (b_one (s_ret (d_bin om_add d_int (d_blt (ap_max cv) (bn w.n_max) bb_max (a_cons (d_bin om_add (d_lst (a_cons d_int a_nil)) (d_comp cv.calm nd (own := [(("part" : Str), 1)]) (i_seq (d_sl (d_var (sl 0)) (o_part d_int) o_none)) (blkOk_by (by kernel_rfl)) (by decide) (fun s H C cl fp => (g_name (ld nd 1))) (fun s H C cl fp => (ts_one (t_tru (d_isi (t := .tuple) (d_var (sl 1)) (bn w.n_isinstance) bb_isinstance (bn w.n_tuple) bb_tuple) (by intro _; rfl)))) (fun s H C cl fp => (d_fun gn w.f__law_deep (cvb cv) (a_cons (d_var (sl 1)) a_nil))))) a_nil)))))
theorem sc__law_look : FnScope ["value", "part"] ["value"] (defScope (top 25)) := ⟨rfl, rfl, rfl, by decide +kernel, rfl, by decide +kernel, by decide +kernel⟩
theorem b__law_look {v : World} (w : Wd CX P v K mg base k F) {f : Addr} {cdv : Value} {A : Around} {outer : List Env} {s : Shared} {H : Hp} {E : XK} (cv : Cv CX (cxOf CX P v K mg base ["value", "part"] "_law_look" (defScope (top 25)) f cdv A outer s H E) E k) (cvb : ∀ {X : Cx} {E : XK}, Cv CX X E k → ∀ {s H sc en fp}, Cv CX (X.blk s H sc en fp) E0 k)
    (own : PassesOwn (model P v) (cxOf CX P v K mg base ["value", "part"] "_law_look" (defScope (top 25)) f cdv A outer s H E).A (cxOf CX P v K mg base ["value", "part"] "_law_look" (defScope (top 25)) f cdv A outer s H E).env (cxOf CX P v K mg base ["value", "part"] "_law_look" (defScope (top 25)) f cdv A outer s H E).xe) : SB (cxOf CX P v K mg base ["value", "part"] "_law_look" (defScope (top 25)) f cdv A outer s H E) E (defBody (top 25)) (c__law_look F) :=
  have nd := sc__law_look.nd
  (b_cons (s_if (t_w (w_or (t_not (t_tru (d_isi (t := .tuple) (d_var (sl 0)) (bn w.n_isinstance) bb_isinstance (bn w.n_tuple) bb_tuple) (by intro _; rfl))) (w_or (t_cmp (om_eq cv) (d_blt ap_len (bn w.n_len) bb_len (a_cons (d_var (sl 0)) a_nil)) d_int rfl) (w_or1 (t_not (t_tru (d_isi (t := .str) (d_ix (d_var (sl 0)) d_int (by intro _ _; rfl)) (bn w.n_isinstance) bb_isinstance (bn w.n_str) bb_str) (by intro _; rfl))))))) (b_one (s_ret d_bl)) b_nil) (b_cons (s_if (t_cmp (om_eq cv) (d_ix (d_var (sl 0)) d_int (by intro _ _; rfl)) d_str rfl) (b_one (s_ret (d_cmp (om_eq cv) (d_blt ap_len (bn w.n_len) bb_len (a_cons (d_var (sl 0)) a_nil)) d_int rfl))) b_nil) (b_cons (s_if (t_cmp (om_eq cv) (d_ix (d_var (sl 0)) d_int (by intro _ _; rfl)) d_str rfl) (b_cons (s_if (t_w (w_or (t_cmp (om_ne cv) (d_blt ap_len (bn w.n_len) bb_len (a_cons (d_var (sl 0)) a_nil)) d_int rfl) (w_or (t_not (t_tru (d_isi (t := .int) (d_ix (d_var (sl 0)) d_int (by intro _ _; rfl)) (bn w.n_isinstance) bb_isinstance (bn w.n_int) bb_int) (by intro _; rfl))) (w_or1 (t_tru (d_isi (t := .bool) (d_ix (d_var (sl 0)) d_int (by intro _ _; rfl)) (bn w.n_isinstance) bb_isinstance (bn w.n_bool) bb_bool) (by intro _; rfl)))))) (b_one (s_ret d_bl)) b_nil) (b_one (s_ret (d_chain om_le om_le d_int (d_ix (d_var (sl 0)) d_int (by intro _ _; rfl)) d_int rfl)))) b_nil) (b_one (s_ret (d_and (d_cmp om_in (d_ix (d_var (sl 0)) d_int (by intro _ _; rfl)) (d_tup (a_cons d_str (a_cons d_str (a_cons d_str a_nil)))) rfl) (d_and (d_cmp (om_eq cv) (d_blt ap_len (bn w.n_len) bb_len (a_cons (d_var (sl 0)) a_nil)) d_int rfl) (d_one (d_blt (ap_all cv) (bn w.n_all) bb_all (a_cons (d_comp cv.calm nd (own := [(("part" : Str), 1)]) (i_seq (d_sl (d_var (sl 0)) (o_part d_int) o_none)) (blkOk_by (by kernel_rfl)) (by decide) (fun s H C cl fp => (g_name (ld nd 1))) (fun s H C cl fp => ts_nil) (fun s H C cl fp => (d_fun gn w.f__law_look (cvb cv) (a_cons (d_var (sl 1)) a_nil)))) a_nil))))))))))
theorem sc__law_is_kind : FnScope ["value"] ["value"] (defScope (top 26)) := ⟨rfl, rfl, rfl, by decide +kernel, rfl, by decide +kernel, by decide +kernel⟩
theorem b__law_is_kind {v : World} (w : Wd CX P v K mg base k F) {f : Addr} {cdv : Value} {A : Around} {outer : List Env} {s : Shared} {H : Hp} {E : XK} (cv : Cv CX (cxOf CX P v K mg base ["value"] "_law_is_kind" (defScope (top 26)) f cdv A outer s H E) E k) (cvb : ∀ {X : Cx} {E : XK}, Cv CX X E k → ∀ {s H sc en fp}, Cv CX (X.blk s H sc en fp) E0 k)
    (own : PassesOwn (model P v) (cxOf CX P v K mg base ["value"] "_law_is_kind" (defScope (top 26)) f cdv A outer s H E).A (cxOf CX P v K mg base ["value"] "_law_is_kind" (defScope (top 26)) f cdv A outer s H E).env (cxOf CX P v K mg base ["value"] "_law_is_kind" (defScope (top 26)) f cdv A outer s H E).xe) : SB (cxOf CX P v K mg base ["value"] "_law_is_kind" (defScope (top 26)) f cdv A outer s H E) E (defBody (top 26)) (c__law_is_kind F) :=
  have nd := sc__law_is_kind.nd
  (b_one (s_ret (d_and (d_fun gn w.f__law_look cv (a_cons (d_var (sl 0)) a_nil)) (d_and (d_cmp om_le (d_fun gn w.f__law_signs cv (a_cons (d_var (sl 0)) a_nil)) d_int rfl) (d_one (d_cmp om_le (d_fun gn w.f__law_deep cv (a_cons (d_var (sl 0)) a_nil)) d_int rfl))))))
theorem sc__law_bent : FnScope ["pot", "kind", "at", "odds", "odd", "head", "tail", "word", "some"] ["pot", "kind"] (defScope (top 27)) := ⟨rfl, rfl, rfl, by decide +kernel, rfl, by decide +kernel, by decide +kernel⟩
theorem b__law_bent {v : World} (w : Wd CX P v K mg base k F) {f : Addr} {cdv : Value} {A : Around} {outer : List Env} {s : Shared} {H : Hp} {E : XK} (cv : Cv CX (cxOf CX P v K mg base ["pot", "kind", "at", "odds", "odd", "head", "tail", "word", "some"] "_law_bent" (defScope (top 27)) f cdv A outer s H E) E k) (cvb : ∀ {X : Cx} {E : XK}, Cv CX X E k → ∀ {s H sc en fp}, Cv CX (X.blk s H sc en fp) E0 k)
    (own : PassesOwn (model P v) (cxOf CX P v K mg base ["pot", "kind", "at", "odds", "odd", "head", "tail", "word", "some"] "_law_bent" (defScope (top 27)) f cdv A outer s H E).A (cxOf CX P v K mg base ["pot", "kind", "at", "odds", "odd", "head", "tail", "word", "some"] "_law_bent" (defScope (top 27)) f cdv A outer s H E).env (cxOf CX P v K mg base ["pot", "kind", "at", "odds", "odd", "head", "tail", "word", "some"] "_law_bent" (defScope (top 27)) f cdv A outer s H E).xe) : SB (cxOf CX P v K mg base ["pot", "kind", "at", "odds", "odd", "head", "tail", "word", "some"] "_law_bent" (defScope (top 27)) f cdv A outer s H E) E (defBody (top 27)) (c__law_bent F) :=
  have nd := sc__law_bent.nd
  (b_cons (s_set (ld nd 2) (d_bin om_add d_int (d_fun gn w.f__law_draw cv (a_cons (d_var (sl 0)) (a_cons (d_blt ap_len (bn w.n_len) bb_len (a_cons (d_var (sl 1)) a_nil)) a_nil))))) (b_cons (s_if (t_w (w_and (t_cmp om_lt (d_var (sl 2)) (d_blt ap_len (bn w.n_len) bb_len (a_cons (d_var (sl 1)) a_nil)) rfl) (w_and (t_tru (d_isi (t := .tuple) (d_ix (d_var (sl 1)) (d_var (sl 2)) (by intro _ _; rfl)) (bn w.n_isinstance) bb_isinstance (bn w.n_tuple) bb_tuple) (by intro _; rfl)) (w_and1 (t_cmp om_gt (d_fun gn w.f__law_draw cv (a_cons (d_var (sl 0)) (a_cons d_int a_nil))) d_int rfl))))) (b_one (s_ret (d_bin om_add (d_bin om_add (d_sl (d_var (sl 1)) o_none (o_part (d_var (sl 2)))) (d_tup (a_cons (d_fun gn w.f__law_bent cv (a_cons (d_var (sl 0)) (a_cons (d_ix (d_var (sl 1)) (d_var (sl 2)) (by intro _ _; rfl)) a_nil))) a_nil))) (d_sl (d_var (sl 1)) (o_part (d_bin om_add (d_var (sl 2)) d_int)) o_none)))) b_nil) (b_cons (s_set (ld nd 3) (d_lst (a_cons d_non (a_cons d_bl (a_cons d_bl (a_cons (d_neg d_int) (a_cons d_int (a_cons d_int (a_cons d_int (a_cons d_str (a_cons d_str (a_cons (d_tup (a_cons d_str a_nil)) (a_cons (d_tup (a_cons d_str (a_cons d_int a_nil))) (a_cons (d_lst a_nil) (a_cons (d_tup a_nil) (a_cons (d_lst (a_cons d_str a_nil)) (a_cons (d_bin om_pow d_int d_int) a_nil))))))))))))))))) (b_cons (s_par3 cv.calm (ld nd 4) (ld nd 5) (ld nd 6) (by decide) (by decide) (by decide) rfl rfl rfl (a_cons (d_fun gn w.f__law_pick cv (a_cons (d_var (sl 0)) (a_cons (d_var (sl 3)) a_nil))) (a_cons (d_sl (d_var (sl 1)) o_none (o_part (d_var (sl 2)))) (a_cons (d_sl (d_var (sl 1)) (o_part (d_bin om_add (d_var (sl 2)) d_int)) o_none) a_nil))) rfl) (b_cons (s_set (ld nd 7) (d_fun gn w.f__law_pick cv (a_cons (d_var (sl 0)) (a_cons (d_lst (a_cons d_str (a_cons d_str (a_cons d_str (a_cons d_str (a_cons d_str (a_cons d_str (a_cons d_str (a_cons d_str a_nil))))))))) a_nil)))) (b_cons (s_set (ld nd 8) (d_lst (a_cons (d_bin om_add (d_bin om_add (d_var (sl 5)) (d_tup (a_cons (d_var (sl 4)) a_nil))) (d_sl (d_var (sl 1)) (o_part (d_var (sl 2))) o_none)) (a_cons (d_bin om_add (d_bin om_add (d_var (sl 5)) (d_tup (a_cons (d_var (sl 4)) a_nil))) (d_var (sl 6))) (a_cons (d_bin om_add (d_var (sl 5)) (d_var (sl 6))) (a_cons (d_bty ap_list (bn w.n_list) bb_list (a_cons (d_var (sl 1)) a_nil)) (a_cons (d_sl (d_var (sl 1)) (o_part d_int) o_none) (a_cons (d_bin om_add (d_var (sl 1)) (d_sl (d_var (sl 1)) (o_part d_int) o_none)) a_nil)))))))) (b_cons (s_set (ld nd 8) (d_bin om_add (d_var (sl 8)) (d_lst (a_cons (d_bin om_add (d_tup (a_cons (d_var (sl 7)) a_nil)) (d_sl (d_var (sl 1)) (o_part d_int) o_none)) (a_cons (d_tup (a_cons (d_var (sl 1)) a_nil)) (a_cons (d_tup (a_cons d_str (a_cons (d_var (sl 1)) (a_cons (d_var (sl 1)) a_nil)))) (a_cons (d_tup (a_cons d_str (a_cons (d_var (sl 1)) a_nil))) (a_cons (d_tup (a_cons d_str (a_cons (d_var (sl 1)) (a_cons (d_var (sl 4)) a_nil)))) a_nil)))))))) (b_one (s_ret (d_fun gn w.f__law_pick cv (a_cons (d_var (sl 0)) (a_cons (d_var (sl 8)) a_nil))))))))))))
theorem sc__law_full : FnScope ["deep"] ["deep"] (defScope (top 28)) := ⟨rfl, rfl, rfl, by decide +kernel, rfl, by decide +kernel, by decide +kernel⟩
theorem b__law_full {v : World} (w : Wd CX P v K mg base k F) {f : Addr} {cdv : Value} {A : Around} {outer : List Env} {s : Shared} {H : Hp} {E : XK} (cv : Cv CX (cxOf CX P v K mg base ["deep"] "_law_full" (defScope (top 28)) f cdv A outer s H E) E k) (cvb : ∀ {X : Cx} {E : XK}, Cv CX X E k → ∀ {s H sc en fp}, Cv CX (X.blk s H sc en fp) E0 k)
    (own : PassesOwn (model P v) (cxOf CX P v K mg base ["deep"] "_law_full" (defScope (top 28)) f cdv A outer s H E).A (cxOf CX P v K mg base ["deep"] "_law_full" (defScope (top 28)) f cdv A outer s H E).env (cxOf CX P v K mg base ["deep"] "_law_full" (defScope (top 28)) f cdv A outer s H E).xe) : SB (cxOf CX P v K mg base ["deep"] "_law_full" (defScope (top 28)) f cdv A outer s H E) E (defBody (top 28)) (c__law_full F) :=
  have nd := sc__law_full.nd
  (b_one (s_ret (d_if (t_cmp (om_eq cv) (d_var (sl 0)) d_int rfl) (d_tup (a_cons d_str (a_cons d_int a_nil))) (d_tup (a_cons d_str (a_cons (d_fun gn w.f__law_full cv (a_cons (d_bin om_sub (d_var (sl 0)) d_int) a_nil)) (a_cons (d_fun gn w.f__law_full cv (a_cons (d_bin om_sub (d_var (sl 0)) d_int) a_nil)) a_nil)))))))
theorem sc__law_row : FnScope ["pot", "many", "part", "found", "turn", "word"] ["pot", "many", "part"] (defScope (top 29)) := ⟨rfl, rfl, rfl, by decide +kernel, rfl, by decide +kernel, by decide +kernel⟩
theorem b__law_row {v : World} (w : Wd CX P v K mg base k F) {f : Addr} {cdv : Value} {A : Around} {outer : List Env} {s : Shared} {H : Hp} {E : XK} (cv : Cv CX (cxOf CX P v K mg base ["pot", "many", "part", "found", "turn", "word"] "_law_row" (defScope (top 29)) f cdv A outer s H E) E k) (cvb : ∀ {X : Cx} {E : XK}, Cv CX X E k → ∀ {s H sc en fp}, Cv CX (X.blk s H sc en fp) E0 k)
    (own : PassesOwn (model P v) (cxOf CX P v K mg base ["pot", "many", "part", "found", "turn", "word"] "_law_row" (defScope (top 29)) f cdv A outer s H E).A (cxOf CX P v K mg base ["pot", "many", "part", "found", "turn", "word"] "_law_row" (defScope (top 29)) f cdv A outer s H E).env (cxOf CX P v K mg base ["pot", "many", "part", "found", "turn", "word"] "_law_row" (defScope (top 29)) f cdv A outer s H E).xe) : SB (cxOf CX P v K mg base ["pot", "many", "part", "found", "turn", "word"] "_law_row" (defScope (top 29)) f cdv A outer s H E) E (defBody (top 29)) (c__law_row F) :=
  have nd := sc__law_row.nd
  (b_cons (s_set (ld nd 3) (d_tup (a_cons d_str a_nil))) (b_cons (s_for cv.calm own (i_rng1 (bn w.n_range) (d_var (sl 1))) (g_name (ld nd 4)) (b_cons (s_set (ld nd 5) (d_fun gn w.f__law_pick cv (a_cons (d_var (sl 0)) (a_cons (d_lst (a_cons d_str (a_cons d_str (a_cons d_str a_nil)))) a_nil)))) (b_one (s_set (ld nd 3) (d_if (t_cmp (om_eq cv) (d_fun gn w.f__law_draw cv (a_cons (d_var (sl 0)) (a_cons d_int a_nil))) d_int rfl) (d_tup (a_cons (d_var (sl 5)) (a_cons (d_var (sl 2)) (a_cons (d_var (sl 3)) a_nil)))) (d_tup (a_cons (d_var (sl 5)) (a_cons (d_var (sl 3)) (a_cons (d_var (sl 2)) a_nil))))))))) (b_one (s_ret (d_var (sl 3))))))
theorem sc__law_right : FnScope ["pot", "kind", "values", "wide", "value", "due", "shown", "turn", "many"] ["pot"] (defScope (top 30)) := ⟨rfl, rfl, rfl, by decide +kernel, rfl, by decide +kernel, by decide +kernel⟩
theorem b__law_right {v : World} (w : Wd CX P v K mg base k F) {f : Addr} {cdv : Value} {A : Around} {outer : List Env} {s : Shared} {H : Hp} {E : XK} (cv : Cv CX (cxOf CX P v K mg base ["pot", "kind", "values", "wide", "value", "due", "shown", "turn", "many"] "_law_right" (defScope (top 30)) f cdv A outer s H E) E k) (cvb : ∀ {X : Cx} {E : XK}, Cv CX X E k → ∀ {s H sc en fp}, Cv CX (X.blk s H sc en fp) E0 k)
    (own : PassesOwn (model P v) (cxOf CX P v K mg base ["pot", "kind", "values", "wide", "value", "due", "shown", "turn", "many"] "_law_right" (defScope (top 30)) f cdv A outer s H E).A (cxOf CX P v K mg base ["pot", "kind", "values", "wide", "value", "due", "shown", "turn", "many"] "_law_right" (defScope (top 30)) f cdv A outer s H E).env (cxOf CX P v K mg base ["pot", "kind", "values", "wide", "value", "due", "shown", "turn", "many"] "_law_right" (defScope (top 30)) f cdv A outer s H E).xe) : SB (cxOf CX P v K mg base ["pot", "kind", "values", "wide", "value", "due", "shown", "turn", "many"] "_law_right" (defScope (top 30)) f cdv A outer s H E) E (defBody (top 30)) (c__law_right F) :=
  have nd := sc__law_right.nd
  (b_cons (s_set (ld nd 1) (d_fun gn w.f__law_kind cv (a_cons (d_var (sl 0)) (a_cons d_int (a_cons d_int a_nil))))) (b_cons (s_set (ld nd 2) (d_bin om_add (d_lst (a_cons (d_var (sl 1)) a_nil)) (d_comp cv.calm nd (own := [(("turn" : Str), 7)]) (i_rng1 (bn w.n_range) d_int) (blkOk_by (by kernel_rfl)) (by decide) (fun s H C cl fp => (g_name (ld nd 7))) (fun s H C cl fp => ts_nil) (fun s H C cl fp => (d_fun gn w.f__law_bent (cvb cv) (a_cons (d_var (sl 0)) (a_cons (d_var (sl 1)) a_nil))))))) (b_cons (s_expr (d_me1 mm_extend PySem.F.slot_list_extend PySem.F.type_list_extend (d_var (sl 2)) (d_comp cv.calm nd (own := [(("many" : Str), 8)]) (i_seq (d_tup (a_cons d_int (a_cons d_int (a_cons d_int (a_cons d_int a_nil)))))) (blkOk_by (by kernel_rfl)) (by decide) (fun s H C cl fp => (g_name (ld nd 8))) (fun s H C cl fp => ts_nil) (fun s H C cl fp => (d_fun gn w.f__law_row (cvb cv) (a_cons (d_var (sl 0)) (a_cons (d_var (sl 8)) (a_cons (d_tup (a_cons d_str (a_cons d_int a_nil))) a_nil)))))))) (b_cons (s_expr (d_me1 mm_extend PySem.F.slot_list_extend PySem.F.type_list_extend (d_var (sl 2)) (d_comp cv.calm nd (own := [(("many" : Str), 8)]) (i_seq (d_tup (a_cons d_int (a_cons d_int (a_cons d_int a_nil))))) (blkOk_by (by kernel_rfl)) (by decide) (fun s H C cl fp => (g_name (ld nd 8))) (fun s H C cl fp => ts_nil) (fun s H C cl fp => (d_fun gn w.f__law_row (cvb cv) (a_cons (d_var (sl 0)) (a_cons (d_var (sl 8)) (a_cons (d_fun gn w.f__law_full (cvb cv) (a_cons d_int a_nil)) a_nil)))))))) (b_cons (s_set (ld nd 3) (d_tup (a_cons d_str (a_cons (d_fun gn w.f__law_full cv (a_cons d_int a_nil)) (a_cons (d_fun gn w.f__law_full cv (a_cons d_int a_nil)) a_nil))))) (b_cons (s_expr (d_me1 mm_extend PySem.F.slot_list_extend PySem.F.type_list_extend (d_var (sl 2)) (d_lst (a_cons (d_fun gn w.f__law_full cv (a_cons d_int a_nil)) (a_cons (d_tup (a_cons d_str (a_cons (d_fun gn w.f__law_full cv (a_cons d_int a_nil)) (a_cons (d_fun gn w.f__law_full cv (a_cons d_int a_nil)) a_nil)))) (a_cons (d_fun gn w.f__law_row cv (a_cons (d_var (sl 0)) (a_cons d_int (a_cons (d_tup (a_cons d_str a_nil)) a_nil)))) a_nil)))))) (b_cons (s_expr (d_me1 mm_extend PySem.F.slot_list_extend PySem.F.type_list_extend (d_var (sl 2)) (d_lst (a_cons (d_var (sl 3)) (a_cons (d_tup (a_cons d_str (a_cons (d_var (sl 3)) (a_cons (d_fun gn w.f__law_row cv (a_cons (d_var (sl 0)) (a_cons d_int (a_cons (d_tup (a_cons d_str a_nil)) a_nil)))) a_nil)))) (a_cons (d_tup (a_cons d_str (a_cons (d_var (sl 3)) (a_cons (d_fun gn w.f__law_row cv (a_cons (d_var (sl 0)) (a_cons d_int (a_cons (d_tup (a_cons d_str a_nil)) a_nil)))) a_nil)))) a_nil)))))) (b_cons (s_for cv.calm own (i_seq (d_bin om_add (d_var (sl 2)) (d_lst (a_cons d_non (a_cons d_int (a_cons d_str (a_cons d_str (a_cons (d_tup a_nil) (a_cons (d_lst a_nil) (a_cons d_dct0 (a_cons d_bl (a_cons (d_tup (a_cons d_str a_nil)) (a_cons (d_tup (a_cons d_str (a_cons d_int a_nil))) (a_cons (d_tup (a_cons d_str (a_cons d_int a_nil))) (a_cons (d_tup (a_cons (d_tup (a_cons d_str a_nil)) a_nil)) a_nil))))))))))))))) (g_name (ld nd 4)) (b_cons (s_par2 cv.calm (ld nd 5) (ld nd 6) (by decide) rfl rfl (a_cons (d_fun gn w.f__law_is_kind cv (a_cons (d_var (sl 4)) a_nil)) (a_cons (d_blt (ap_repr cv) (bn w.n_repr) bb_repr (a_cons (d_var (sl 4)) a_nil)) a_nil)) rfl) (b_one (s_if (t_w (w_or (t_cmp (om_ne cv) (d_blt (ap_repr cv) (bn w.n_repr) bb_repr (a_cons (d_lst (a_cons (d_fun gn w.f_is_a_kind cv (a_cons (d_var (sl 4)) a_nil)) (a_cons (d_funK0 gn w.k_is_a_kind_0_value cv (fun _ _ _ => mk_nil) (k_cons (d_var (sl 4)) k_nil)) a_nil))) a_nil)) (d_blt (ap_repr cv) (bn w.n_repr) bb_repr (a_cons (d_lst (a_cons (d_var (sl 5)) (a_cons (d_var (sl 5)) a_nil))) a_nil)) rfl) (w_or1 (t_cmp (om_ne cv) (d_blt (ap_repr cv) (bn w.n_repr) bb_repr (a_cons (d_var (sl 4)) a_nil)) (d_var (sl 6)) rfl)))) (b_one (s_ret d_bl)) b_nil)))) (b_one (s_ret d_bl))))))))))
theorem sc_law : FnScope ["script", "k"] ["script"] (defScope (top 31)) := ⟨rfl, rfl, rfl, by decide +kernel, rfl, by decide +kernel, by decide +kernel⟩
theorem b_law {v : World} (w : Wd CX P v K mg base k F) {f : Addr} {cdv : Value} {A : Around} {outer : List Env} {s : Shared} {H : Hp} {E : XK} (cv : Cv CX (cxOf CX P v K mg base ["script", "k"] "law" (defScope (top 31)) f cdv A outer s H E) E k) (cvb : ∀ {X : Cx} {E : XK}, Cv CX X E k → ∀ {s H sc en fp}, Cv CX (X.blk s H sc en fp) E0 k)
    (own : PassesOwn (model P v) (cxOf CX P v K mg base ["script", "k"] "law" (defScope (top 31)) f cdv A outer s H E).A (cxOf CX P v K mg base ["script", "k"] "law" (defScope (top 31)) f cdv A outer s H E).env (cxOf CX P v K mg base ["script", "k"] "law" (defScope (top 31)) f cdv A outer s H E).xe) : SB (cxOf CX P v K mg base ["script", "k"] "law" (defScope (top 31)) f cdv A outer s H E) E (defBody (top 31)) (c_law F) :=
  have nd := sc_law.nd
  (b_one (s_ret (d_blt (ap_all cv) (bn w.n_all) bb_all (a_cons (d_comp cv.calm nd (own := [(("k" : Str), 1)]) (i_rng1 (bn w.n_range) (d_blt (ap_max2 cv) (bn w.n_max) bb_max (a_cons d_int (a_cons (d_blt (ap_min2 cv) (bn w.n_min) bb_min (a_cons d_int (a_cons (d_blt ap_len (bn w.n_len) bb_len (a_cons (d_var (sl 0)) a_nil)) a_nil))) a_nil)))) (blkOk_by (by kernel_rfl)) (by decide) (fun s H C cl fp => (g_name (ld nd 1))) (fun s H C cl fp => ts_nil) (fun s H C cl fp => (d_fun gn w.f__law_right (cvb cv) (a_cons (d_fun gn w.f__law_pot (cvb cv) (a_cons (d_var (sl 0)) (a_cons (d_var (sl 1)) a_nil))) a_nil)))) a_nil))))
structure Gf (K : PySem.W.Frag) (mg : Str → Option Value) : Prop where
  n_abs : mg "abs" = none
  n_all : mg "all" = none
  n_bool : mg "bool" = none
  n_divmod : mg "divmod" = none
  n_int : mg "int" = none
  n_isinstance : mg "isinstance" = none
  n_len : mg "len" = none
  n_list : mg "list" = none
  n_max : mg "max" = none
  n_min : mg "min" = none
  n_range : mg "range" = none
  n_repr : mg "repr" = none
  n_str : mg "str" = none
  n_sum : mg "sum" = none
  n_tuple : mg "tuple" = none
  t_DOUBLE : mg "DOUBLE" = some (.ref (He.ga K "DOUBLE")) ∧ ∀ H, SqT K H (He.ga K "DOUBLE") (t_DOUBLE.map flatOf)
  s_LETTER : ∃ t, mg "LETTER" = some (.str "letter" t)
  i_MOST_DEEP : ∃ t, mg "MOST_DEEP" = some (.int 12 t)
  i_MOST_LETTER : ∃ t, mg "MOST_LETTER" = some (.int 5 t)
  i_MOST_SIGNS : ∃ t, mg "MOST_SIGNS" = some (.int 60 t)
  s_ONE : ∃ t, mg "ONE" = some (.str "one" t)
  D_is_integer : ∃ fd, FunD K "is_integer" "is_integer" (defArgs (top 1)) (defBody (top 1)) (defScope (top 1)) [] [] (He.ga K "is_integer") fd
  m_is_integer : mg "is_integer" = some (.ref (He.ga K "is_integer"))
  D_is_count : ∃ fd, FunD K "is_count" "is_count" (defArgs (top 2)) (defBody (top 2)) (defScope (top 2)) [] [] (He.ga K "is_count") fd
  m_is_count : mg "is_count" = some (.ref (He.ga K "is_count"))
  D_is_shaped : ∃ fd, FunD K "is_shaped" "is_shaped" (defArgs (top 13)) (defBody (top 13)) (defScope (top 13)) [] [] (He.ga K "is_shaped") fd
  m_is_shaped : mg "is_shaped" = some (.ref (He.ga K "is_shaped"))
  D_signs_of : ∃ fd, FunD K "signs_of" "signs_of" (defArgs (top 14)) (defBody (top 14)) (defScope (top 14)) [] [] (He.ga K "signs_of") fd
  m_signs_of : mg "signs_of" = some (.ref (He.ga K "signs_of"))
  D_is_kind : ∃ fd, FunD K "is_kind" "is_kind" (defArgs (top 15)) (defBody (top 15)) (defScope (top 15)) [] [] (He.ga K "is_kind") fd
  m_is_kind : mg "is_kind" = some (.ref (He.ga K "is_kind"))
  D_is_a_kind : ∃ fd, FunD K "is_a_kind" "is_a_kind" (defArgs (top 16)) (defBody (top 16)) (defScope (top 16)) [] [] (He.ga K "is_a_kind") fd
  m_is_a_kind : mg "is_a_kind" = some (.ref (He.ga K "is_a_kind"))
  D__law_pot : ∃ fd, FunD K "_law_pot" "_law_pot" (defArgs (top 18)) (defBody (top 18)) (defScope (top 18)) [] [] (He.ga K "_law_pot") fd
  m__law_pot : mg "_law_pot" = some (.ref (He.ga K "_law_pot"))
  D__law_draw : ∃ fd, FunD K "_law_draw" "_law_draw" (defArgs (top 19)) (defBody (top 19)) (defScope (top 19)) [] [] (He.ga K "_law_draw") fd
  m__law_draw : mg "_law_draw" = some (.ref (He.ga K "_law_draw"))
  D__law_pick : ∃ fd, FunD K "_law_pick" "_law_pick" (defArgs (top 20)) (defBody (top 20)) (defScope (top 20)) [] [] (He.ga K "_law_pick") fd
  m__law_pick : mg "_law_pick" = some (.ref (He.ga K "_law_pick"))
  D__law_kind : ∃ fd, FunD K "_law_kind" "_law_kind" (defArgs (top 22)) (defBody (top 22)) (defScope (top 22)) [] [] (He.ga K "_law_kind") fd
  m__law_kind : mg "_law_kind" = some (.ref (He.ga K "_law_kind"))
  D__law_signs : ∃ fd, FunD K "_law_signs" "_law_signs" (defArgs (top 23)) (defBody (top 23)) (defScope (top 23)) [] [] (He.ga K "_law_signs") fd
  m__law_signs : mg "_law_signs" = some (.ref (He.ga K "_law_signs"))
  D__law_deep : ∃ fd, FunD K "_law_deep" "_law_deep" (defArgs (top 24)) (defBody (top 24)) (defScope (top 24)) [] [] (He.ga K "_law_deep") fd
  m__law_deep : mg "_law_deep" = some (.ref (He.ga K "_law_deep"))
  D__law_look : ∃ fd, FunD K "_law_look" "_law_look" (defArgs (top 25)) (defBody (top 25)) (defScope (top 25)) [] [] (He.ga K "_law_look") fd
  m__law_look : mg "_law_look" = some (.ref (He.ga K "_law_look"))
  D__law_is_kind : ∃ fd, FunD K "_law_is_kind" "_law_is_kind" (defArgs (top 26)) (defBody (top 26)) (defScope (top 26)) [] [] (He.ga K "_law_is_kind") fd
  m__law_is_kind : mg "_law_is_kind" = some (.ref (He.ga K "_law_is_kind"))
  D__law_bent : ∃ fd, FunD K "_law_bent" "_law_bent" (defArgs (top 27)) (defBody (top 27)) (defScope (top 27)) [] [] (He.ga K "_law_bent") fd
  m__law_bent : mg "_law_bent" = some (.ref (He.ga K "_law_bent"))
  D__law_full : ∃ fd, FunD K "_law_full" "_law_full" (defArgs (top 28)) (defBody (top 28)) (defScope (top 28)) [] [] (He.ga K "_law_full") fd
  m__law_full : mg "_law_full" = some (.ref (He.ga K "_law_full"))
  D__law_row : ∃ fd, FunD K "_law_row" "_law_row" (defArgs (top 29)) (defBody (top 29)) (defScope (top 29)) [] [] (He.ga K "_law_row") fd
  m__law_row : mg "_law_row" = some (.ref (He.ga K "_law_row"))
  D__law_right : ∃ fd, FunD K "_law_right" "_law_right" (defArgs (top 30)) (defBody (top 30)) (defScope (top 30)) [] [] (He.ga K "_law_right") fd
  m__law_right : mg "_law_right" = some (.ref (He.ga K "_law_right"))
  D_law : ∃ fd, FunD K "law" "law" (defArgs (top 31)) (defBody (top 31)) (defScope (top 31)) [] [] (He.ga K "law") fd
  m_law : mg "law" = some (.ref (He.ga K "law"))
theorem bi_is_integer {fd : FuncData} (D : FunD K "is_integer" "is_integer" (defArgs (top 1)) (defBody (top 1)) (defScope (top 1)) [] [] (He.ga K "is_integer") fd) : Binds K fd ["value"] [] := D.bindsN fun _ _ _ _ _ _ us hl => match us, hl with | [_], _ => rfl
theorem bi_is_count {fd : FuncData} (D : FunD K "is_count" "is_count" (defArgs (top 2)) (defBody (top 2)) (defScope (top 2)) [] [] (He.ga K "is_count") fd) : Binds K fd ["value"] [] := D.bindsN fun _ _ _ _ _ _ us hl => match us, hl with | [_], _ => rfl
theorem bi_is_shaped {fd : FuncData} (D : FunD K "is_shaped" "is_shaped" (defArgs (top 13)) (defBody (top 13)) (defScope (top 13)) [] [] (He.ga K "is_shaped") fd) : Binds K fd ["value", "deep"] [] := D.bindsN fun _ _ _ _ _ _ us hl => match us, hl with | [_, _], _ => rfl
theorem bi_signs_of {fd : FuncData} (D : FunD K "signs_of" "signs_of" (defArgs (top 14)) (defBody (top 14)) (defScope (top 14)) [] [] (He.ga K "signs_of") fd) : Binds K fd ["kind"] [] := D.bindsN fun _ _ _ _ _ _ us hl => match us, hl with | [_], _ => rfl
theorem bi_is_kind {fd : FuncData} (D : FunD K "is_kind" "is_kind" (defArgs (top 15)) (defBody (top 15)) (defScope (top 15)) [] [] (He.ga K "is_kind") fd) : Binds K fd ["value"] [] := D.bindsN fun _ _ _ _ _ _ us hl => match us, hl with | [_], _ => rfl
theorem bi_is_a_kind {fd : FuncData} (D : FunD K "is_a_kind" "is_a_kind" (defArgs (top 16)) (defBody (top 16)) (defScope (top 16)) [] [] (He.ga K "is_a_kind") fd) : Binds K fd ["value"] [] := D.bindsN fun _ _ _ _ _ _ us hl => match us, hl with | [_], _ => rfl
theorem bi__law_pot {fd : FuncData} (D : FunD K "_law_pot" "_law_pot" (defArgs (top 18)) (defBody (top 18)) (defScope (top 18)) [] [] (He.ga K "_law_pot") fd) : Binds K fd ["script", "k"] [] := D.bindsN fun _ _ _ _ _ _ us hl => match us, hl with | [_, _], _ => rfl
theorem bi__law_draw {fd : FuncData} (D : FunD K "_law_draw" "_law_draw" (defArgs (top 19)) (defBody (top 19)) (defScope (top 19)) [] [] (He.ga K "_law_draw") fd) : Binds K fd ["pot", "many"] [] := D.bindsN fun _ _ _ _ _ _ us hl => match us, hl with | [_, _], _ => rfl
theorem bi__law_pick {fd : FuncData} (D : FunD K "_law_pick" "_law_pick" (defArgs (top 20)) (defBody (top 20)) (defScope (top 20)) [] [] (He.ga K "_law_pick") fd) : Binds K fd ["pot", "some"] [] := D.bindsN fun _ _ _ _ _ _ us hl => match us, hl with | [_, _], _ => rfl
theorem bi__law_kind {fd : FuncData} (D : FunD K "_law_kind" "_law_kind" (defArgs (top 22)) (defBody (top 22)) (defScope (top 22)) [] [] (He.ga K "_law_kind") fd) : Binds K fd ["pot", "letters", "deep"] [] := D.bindsN fun _ _ _ _ _ _ us hl => match us, hl with | [_, _, _], _ => rfl
theorem bi__law_signs {fd : FuncData} (D : FunD K "_law_signs" "_law_signs" (defArgs (top 23)) (defBody (top 23)) (defScope (top 23)) [] [] (He.ga K "_law_signs") fd) : Binds K fd ["kind"] [] := D.bindsN fun _ _ _ _ _ _ us hl => match us, hl with | [_], _ => rfl
theorem bi__law_deep {fd : FuncData} (D : FunD K "_law_deep" "_law_deep" (defArgs (top 24)) (defBody (top 24)) (defScope (top 24)) [] [] (He.ga K "_law_deep") fd) : Binds K fd ["kind"] [] := D.bindsN fun _ _ _ _ _ _ us hl => match us, hl with | [_], _ => rfl
theorem bi__law_look {fd : FuncData} (D : FunD K "_law_look" "_law_look" (defArgs (top 25)) (defBody (top 25)) (defScope (top 25)) [] [] (He.ga K "_law_look") fd) : Binds K fd ["value"] [] := D.bindsN fun _ _ _ _ _ _ us hl => match us, hl with | [_], _ => rfl
theorem bi__law_is_kind {fd : FuncData} (D : FunD K "_law_is_kind" "_law_is_kind" (defArgs (top 26)) (defBody (top 26)) (defScope (top 26)) [] [] (He.ga K "_law_is_kind") fd) : Binds K fd ["value"] [] := D.bindsN fun _ _ _ _ _ _ us hl => match us, hl with | [_], _ => rfl
theorem bi__law_bent {fd : FuncData} (D : FunD K "_law_bent" "_law_bent" (defArgs (top 27)) (defBody (top 27)) (defScope (top 27)) [] [] (He.ga K "_law_bent") fd) : Binds K fd ["pot", "kind"] [] := D.bindsN fun _ _ _ _ _ _ us hl => match us, hl with | [_, _], _ => rfl
theorem bi__law_full {fd : FuncData} (D : FunD K "_law_full" "_law_full" (defArgs (top 28)) (defBody (top 28)) (defScope (top 28)) [] [] (He.ga K "_law_full") fd) : Binds K fd ["deep"] [] := D.bindsN fun _ _ _ _ _ _ us hl => match us, hl with | [_], _ => rfl
theorem bi__law_row {fd : FuncData} (D : FunD K "_law_row" "_law_row" (defArgs (top 29)) (defBody (top 29)) (defScope (top 29)) [] [] (He.ga K "_law_row") fd) : Binds K fd ["pot", "many", "part"] [] := D.bindsN fun _ _ _ _ _ _ us hl => match us, hl with | [_, _, _], _ => rfl
theorem bi__law_right {fd : FuncData} (D : FunD K "_law_right" "_law_right" (defArgs (top 30)) (defBody (top 30)) (defScope (top 30)) [] [] (He.ga K "_law_right") fd) : Binds K fd ["pot"] [] := D.bindsN fun _ _ _ _ _ _ us hl => match us, hl with | [_], _ => rfl
theorem bi_law {fd : FuncData} (D : FunD K "law" "law" (defArgs (top 31)) (defBody (top 31)) (defScope (top 31)) [] [] (He.ga K "law") fd) : Binds K fd ["script"] [] := D.bindsN fun _ _ _ _ _ _ us hl => match us, hl with | [_], _ => rfl
theorem bi_k_is_a_kind_0_value {fd : FuncData} (D : FunD K "is_a_kind" "is_a_kind" (defArgs (top 16)) (defBody (top 16)) (defScope (top 16)) [] [] (He.ga K "is_a_kind") fd) : ∃ its : List Value, KBn K fd ["value"] 0 ["value"] (fun us ws => mix us its ws [(2, 0)]) (fun vs zs => mix vs [] zs [(2, 0)]) := kbn_plain D fun _ _ _ _ _ _ us ws h1 h2 => match us, ws, h1, h2 with | [], [_], _, _ => rfl
theorem wd_of {v : World} (gf : Gf K mg)
    (G_is_integer : ∀ fd, FunD K "is_integer" "is_integer" (defArgs (top 1)) (defBody (top 1)) (defScope (top 1)) [] [] (He.ga K "is_integer") fd → FnG CX P v K mg base k (He.ga K "is_integer") fd ["value"] F 0)
    (G_is_count : ∀ fd, FunD K "is_count" "is_count" (defArgs (top 2)) (defBody (top 2)) (defScope (top 2)) [] [] (He.ga K "is_count") fd → FnG CX P v K mg base k (He.ga K "is_count") fd ["value"] F 1)
    (G_is_shaped : ∀ fd, FunD K "is_shaped" "is_shaped" (defArgs (top 13)) (defBody (top 13)) (defScope (top 13)) [] [] (He.ga K "is_shaped") fd → FnG CX P v K mg base k (He.ga K "is_shaped") fd ["value", "deep"] F 2)
    (G_signs_of : ∀ fd, FunD K "signs_of" "signs_of" (defArgs (top 14)) (defBody (top 14)) (defScope (top 14)) [] [] (He.ga K "signs_of") fd → FnG CX P v K mg base k (He.ga K "signs_of") fd ["kind"] F 3)
    (G_is_kind : ∀ fd, FunD K "is_kind" "is_kind" (defArgs (top 15)) (defBody (top 15)) (defScope (top 15)) [] [] (He.ga K "is_kind") fd → FnG CX P v K mg base k (He.ga K "is_kind") fd ["value"] F 4)
    (G_is_a_kind : ∀ fd, FunD K "is_a_kind" "is_a_kind" (defArgs (top 16)) (defBody (top 16)) (defScope (top 16)) [] [] (He.ga K "is_a_kind") fd → FnG CX P v K mg base k (He.ga K "is_a_kind") fd ["value"] F 5)
    (G__law_pot : ∀ fd, FunD K "_law_pot" "_law_pot" (defArgs (top 18)) (defBody (top 18)) (defScope (top 18)) [] [] (He.ga K "_law_pot") fd → FnG CX P v K mg base k (He.ga K "_law_pot") fd ["script", "k"] F 6)
    (G__law_draw : ∀ fd, FunD K "_law_draw" "_law_draw" (defArgs (top 19)) (defBody (top 19)) (defScope (top 19)) [] [] (He.ga K "_law_draw") fd → FnG CX P v K mg base k (He.ga K "_law_draw") fd ["pot", "many"] F 7)
    (G__law_pick : ∀ fd, FunD K "_law_pick" "_law_pick" (defArgs (top 20)) (defBody (top 20)) (defScope (top 20)) [] [] (He.ga K "_law_pick") fd → FnG CX P v K mg base k (He.ga K "_law_pick") fd ["pot", "some"] F 8)
    (G__law_kind : ∀ fd, FunD K "_law_kind" "_law_kind" (defArgs (top 22)) (defBody (top 22)) (defScope (top 22)) [] [] (He.ga K "_law_kind") fd → FnG CX P v K mg base k (He.ga K "_law_kind") fd ["pot", "letters", "deep"] F 9)
    (G__law_signs : ∀ fd, FunD K "_law_signs" "_law_signs" (defArgs (top 23)) (defBody (top 23)) (defScope (top 23)) [] [] (He.ga K "_law_signs") fd → FnG CX P v K mg base k (He.ga K "_law_signs") fd ["kind"] F 10)
    (G__law_deep : ∀ fd, FunD K "_law_deep" "_law_deep" (defArgs (top 24)) (defBody (top 24)) (defScope (top 24)) [] [] (He.ga K "_law_deep") fd → FnG CX P v K mg base k (He.ga K "_law_deep") fd ["kind"] F 11)
    (G__law_look : ∀ fd, FunD K "_law_look" "_law_look" (defArgs (top 25)) (defBody (top 25)) (defScope (top 25)) [] [] (He.ga K "_law_look") fd → FnG CX P v K mg base k (He.ga K "_law_look") fd ["value"] F 12)
    (G__law_is_kind : ∀ fd, FunD K "_law_is_kind" "_law_is_kind" (defArgs (top 26)) (defBody (top 26)) (defScope (top 26)) [] [] (He.ga K "_law_is_kind") fd → FnG CX P v K mg base k (He.ga K "_law_is_kind") fd ["value"] F 13)
    (G__law_bent : ∀ fd, FunD K "_law_bent" "_law_bent" (defArgs (top 27)) (defBody (top 27)) (defScope (top 27)) [] [] (He.ga K "_law_bent") fd → FnG CX P v K mg base k (He.ga K "_law_bent") fd ["pot", "kind"] F 14)
    (G__law_full : ∀ fd, FunD K "_law_full" "_law_full" (defArgs (top 28)) (defBody (top 28)) (defScope (top 28)) [] [] (He.ga K "_law_full") fd → FnG CX P v K mg base k (He.ga K "_law_full") fd ["deep"] F 15)
    (G__law_row : ∀ fd, FunD K "_law_row" "_law_row" (defArgs (top 29)) (defBody (top 29)) (defScope (top 29)) [] [] (He.ga K "_law_row") fd → FnG CX P v K mg base k (He.ga K "_law_row") fd ["pot", "many", "part"] F 16)
    (G__law_right : ∀ fd, FunD K "_law_right" "_law_right" (defArgs (top 30)) (defBody (top 30)) (defScope (top 30)) [] [] (He.ga K "_law_right") fd → FnG CX P v K mg base k (He.ga K "_law_right") fd ["pot"] F 17)
    (G_law : ∀ fd, FunD K "law" "law" (defArgs (top 31)) (defBody (top 31)) (defScope (top 31)) [] [] (He.ga K "law") fd → FnG CX P v K mg base k (He.ga K "law") fd ["script"] F 18)
    : Wd CX P v K mg base k F := by
  obtain ⟨fd_is_integer, D_is_integer⟩ := gf.D_is_integer
  obtain ⟨fd_is_count, D_is_count⟩ := gf.D_is_count
  obtain ⟨fd_is_shaped, D_is_shaped⟩ := gf.D_is_shaped
  obtain ⟨fd_signs_of, D_signs_of⟩ := gf.D_signs_of
  obtain ⟨fd_is_kind, D_is_kind⟩ := gf.D_is_kind
  obtain ⟨fd_is_a_kind, D_is_a_kind⟩ := gf.D_is_a_kind
  obtain ⟨fd__law_pot, D__law_pot⟩ := gf.D__law_pot
  obtain ⟨fd__law_draw, D__law_draw⟩ := gf.D__law_draw
  obtain ⟨fd__law_pick, D__law_pick⟩ := gf.D__law_pick
  obtain ⟨fd__law_kind, D__law_kind⟩ := gf.D__law_kind
  obtain ⟨fd__law_signs, D__law_signs⟩ := gf.D__law_signs
  obtain ⟨fd__law_deep, D__law_deep⟩ := gf.D__law_deep
  obtain ⟨fd__law_look, D__law_look⟩ := gf.D__law_look
  obtain ⟨fd__law_is_kind, D__law_is_kind⟩ := gf.D__law_is_kind
  obtain ⟨fd__law_bent, D__law_bent⟩ := gf.D__law_bent
  obtain ⟨fd__law_full, D__law_full⟩ := gf.D__law_full
  obtain ⟨fd__law_row, D__law_row⟩ := gf.D__law_row
  obtain ⟨fd__law_right, D__law_right⟩ := gf.D__law_right
  obtain ⟨fd_law, D_law⟩ := gf.D_law
  exact {
    n_abs := gf.n_abs,
    n_all := gf.n_all,
    n_bool := gf.n_bool,
    n_divmod := gf.n_divmod,
    n_int := gf.n_int,
    n_isinstance := gf.n_isinstance,
    n_len := gf.n_len,
    n_list := gf.n_list,
    n_max := gf.n_max,
    n_min := gf.n_min,
    n_range := gf.n_range,
    n_repr := gf.n_repr,
    n_str := gf.n_str,
    n_sum := gf.n_sum,
    n_tuple := gf.n_tuple,
    t_DOUBLE := gf.t_DOUBLE,
    s_LETTER := gf.s_LETTER,
    i_MOST_DEEP := gf.i_MOST_DEEP,
    i_MOST_LETTER := gf.i_MOST_LETTER,
    i_MOST_SIGNS := gf.i_MOST_SIGNS,
    s_ONE := gf.s_ONE,
    f_is_integer := ⟨⟨fd_is_integer, _, rfl, G_is_integer _ D_is_integer, bi_is_integer D_is_integer⟩, gf.m_is_integer, D_is_integer.kp⟩,
    f_is_count := ⟨⟨fd_is_count, _, rfl, G_is_count _ D_is_count, bi_is_count D_is_count⟩, gf.m_is_count, D_is_count.kp⟩,
    f_is_shaped := ⟨⟨fd_is_shaped, _, rfl, G_is_shaped _ D_is_shaped, bi_is_shaped D_is_shaped⟩, gf.m_is_shaped, D_is_shaped.kp⟩,
    f_signs_of := ⟨⟨fd_signs_of, _, rfl, G_signs_of _ D_signs_of, bi_signs_of D_signs_of⟩, gf.m_signs_of, D_signs_of.kp⟩,
    f_is_kind := ⟨⟨fd_is_kind, _, rfl, G_is_kind _ D_is_kind, bi_is_kind D_is_kind⟩, gf.m_is_kind, D_is_kind.kp⟩,
    f_is_a_kind := ⟨⟨fd_is_a_kind, _, rfl, G_is_a_kind _ D_is_a_kind, bi_is_a_kind D_is_a_kind⟩, gf.m_is_a_kind, D_is_a_kind.kp⟩,
    f__law_pot := ⟨⟨fd__law_pot, _, rfl, G__law_pot _ D__law_pot, bi__law_pot D__law_pot⟩, gf.m__law_pot, D__law_pot.kp⟩,
    f__law_draw := ⟨⟨fd__law_draw, _, rfl, G__law_draw _ D__law_draw, bi__law_draw D__law_draw⟩, gf.m__law_draw, D__law_draw.kp⟩,
    f__law_pick := ⟨⟨fd__law_pick, _, rfl, G__law_pick _ D__law_pick, bi__law_pick D__law_pick⟩, gf.m__law_pick, D__law_pick.kp⟩,
    f__law_kind := ⟨⟨fd__law_kind, _, rfl, G__law_kind _ D__law_kind, bi__law_kind D__law_kind⟩, gf.m__law_kind, D__law_kind.kp⟩,
    f__law_signs := ⟨⟨fd__law_signs, _, rfl, G__law_signs _ D__law_signs, bi__law_signs D__law_signs⟩, gf.m__law_signs, D__law_signs.kp⟩,
    f__law_deep := ⟨⟨fd__law_deep, _, rfl, G__law_deep _ D__law_deep, bi__law_deep D__law_deep⟩, gf.m__law_deep, D__law_deep.kp⟩,
    f__law_look := ⟨⟨fd__law_look, _, rfl, G__law_look _ D__law_look, bi__law_look D__law_look⟩, gf.m__law_look, D__law_look.kp⟩,
    f__law_is_kind := ⟨⟨fd__law_is_kind, _, rfl, G__law_is_kind _ D__law_is_kind, bi__law_is_kind D__law_is_kind⟩, gf.m__law_is_kind, D__law_is_kind.kp⟩,
    f__law_bent := ⟨⟨fd__law_bent, _, rfl, G__law_bent _ D__law_bent, bi__law_bent D__law_bent⟩, gf.m__law_bent, D__law_bent.kp⟩,
    f__law_full := ⟨⟨fd__law_full, _, rfl, G__law_full _ D__law_full, bi__law_full D__law_full⟩, gf.m__law_full, D__law_full.kp⟩,
    f__law_row := ⟨⟨fd__law_row, _, rfl, G__law_row _ D__law_row, bi__law_row D__law_row⟩, gf.m__law_row, D__law_row.kp⟩,
    f__law_right := ⟨⟨fd__law_right, _, rfl, G__law_right _ D__law_right, bi__law_right D__law_right⟩, gf.m__law_right, D__law_right.kp⟩,
    f_law := ⟨⟨fd_law, _, rfl, G_law _ D_law, bi_law D_law⟩, gf.m_law, D_law.kp⟩,
    k_is_a_kind_0_value := (bi_k_is_a_kind_0_value D_is_a_kind).elim fun its B => ⟨⟨fd_is_a_kind, _, its, rfl, G_is_a_kind _ D_is_a_kind, B⟩, gf.m_is_a_kind, D_is_a_kind.kp⟩ }
theorem wd {v : World} (gf : Gf K mg) : ∀ k, Wd CX0 P v K mg base k (tab bodies k)
  | 0 => wd_of gf (fun _ _ => fng0 rfl) (fun _ _ => fng0 rfl) (fun _ _ => fng0 rfl) (fun _ _ => fng0 rfl) (fun _ _ => fng0 rfl) (fun _ _ => fng0 rfl) (fun _ _ => fng0 rfl) (fun _ _ => fng0 rfl) (fun _ _ => fng0 rfl) (fun _ _ => fng0 rfl) (fun _ _ => fng0 rfl) (fun _ _ => fng0 rfl) (fun _ _ => fng0 rfl) (fun _ _ => fng0 rfl) (fun _ _ => fng0 rfl) (fun _ _ => fng0 rfl) (fun _ _ => fng0 rfl) (fun _ _ => fng0 rfl) (fun _ _ => fng0 rfl)
  | k + 1 => have w := wd gf k; wd_of gf
    (fun _ D => fng (more := 0) D sc_is_integer rfl rfl fun cdv A outer s H E room gd => b_is_integer w ⟨rfl, room, gd, pass0⟩ (fun c => ⟨c.calm, c.room, c.gd, pass0⟩) (passes_of rfl))
    (fun _ D => fng (more := 0) D sc_is_count rfl rfl fun cdv A outer s H E room gd => b_is_count w ⟨rfl, room, gd, pass0⟩ (fun c => ⟨c.calm, c.room, c.gd, pass0⟩) (passes_of rfl))
    (fun _ D => fng (more := 0) D sc_is_shaped rfl rfl fun cdv A outer s H E room gd => b_is_shaped w ⟨rfl, room, gd, pass0⟩ (fun c => ⟨c.calm, c.room, c.gd, pass0⟩) (passes_of rfl))
    (fun _ D => fng (more := 0) D sc_signs_of rfl rfl fun cdv A outer s H E room gd => b_signs_of w ⟨rfl, room, gd, pass0⟩ (fun c => ⟨c.calm, c.room, c.gd, pass0⟩) (passes_of rfl))
    (fun _ D => fng (more := 0) D sc_is_kind rfl rfl fun cdv A outer s H E room gd => b_is_kind w ⟨rfl, room, gd, pass0⟩ (fun c => ⟨c.calm, c.room, c.gd, pass0⟩) (passes_of rfl))
    (fun _ D => fng (more := 0) D sc_is_a_kind rfl rfl fun cdv A outer s H E room gd => b_is_a_kind w ⟨rfl, room, gd, pass0⟩ (fun c => ⟨c.calm, c.room, c.gd, pass0⟩) (passes_of rfl))
    (fun _ D => fng (more := 1) D sc__law_pot rfl rfl fun cdv A outer s H E room gd => b__law_pot w ⟨rfl, room, gd, pass0⟩ (fun c => ⟨c.calm, c.room, c.gd, pass0⟩) (passes_of rfl))
    (fun _ D => fng (more := 1) D sc__law_draw rfl rfl fun cdv A outer s H E room gd => b__law_draw w ⟨rfl, room, gd, pass0⟩ (fun c => ⟨c.calm, c.room, c.gd, pass0⟩) (passes_of rfl))
    (fun _ D => fng (more := 0) D sc__law_pick rfl rfl fun cdv A outer s H E room gd => b__law_pick w ⟨rfl, room, gd, pass0⟩ (fun c => ⟨c.calm, c.room, c.gd, pass0⟩) (passes_of rfl))
    (fun _ D => fng (more := 2) D sc__law_kind rfl rfl fun cdv A outer s H E room gd => b__law_kind w ⟨rfl, room, gd, pass0⟩ (fun c => ⟨c.calm, c.room, c.gd, pass0⟩) (passes_of rfl))
    (fun _ D => fng (more := 1) D sc__law_signs rfl rfl fun cdv A outer s H E room gd => b__law_signs w ⟨rfl, room, gd, pass0⟩ (fun c => ⟨c.calm, c.room, c.gd, pass0⟩) (passes_of rfl))
    (fun _ D => fng (more := 1) D sc__law_deep rfl rfl fun cdv A outer s H E room gd => b__law_deep w ⟨rfl, room, gd, pass0⟩ (fun c => ⟨c.calm, c.room, c.gd, pass0⟩) (passes_of rfl))
    (fun _ D => fng (more := 1) D sc__law_look rfl rfl fun cdv A outer s H E room gd => b__law_look w ⟨rfl, room, gd, pass0⟩ (fun c => ⟨c.calm, c.room, c.gd, pass0⟩) (passes_of rfl))
    (fun _ D => fng (more := 0) D sc__law_is_kind rfl rfl fun cdv A outer s H E room gd => b__law_is_kind w ⟨rfl, room, gd, pass0⟩ (fun c => ⟨c.calm, c.room, c.gd, pass0⟩) (passes_of rfl))
    (fun _ D => fng (more := 7) D sc__law_bent rfl rfl fun cdv A outer s H E room gd => b__law_bent w ⟨rfl, room, gd, pass0⟩ (fun c => ⟨c.calm, c.room, c.gd, pass0⟩) (passes_of rfl))
    (fun _ D => fng (more := 0) D sc__law_full rfl rfl fun cdv A outer s H E room gd => b__law_full w ⟨rfl, room, gd, pass0⟩ (fun c => ⟨c.calm, c.room, c.gd, pass0⟩) (passes_of rfl))
    (fun _ D => fng (more := 3) D sc__law_row rfl rfl fun cdv A outer s H E room gd => b__law_row w ⟨rfl, room, gd, pass0⟩ (fun c => ⟨c.calm, c.room, c.gd, pass0⟩) (passes_of rfl))
    (fun _ D => fng (more := 8) D sc__law_right rfl rfl fun cdv A outer s H E room gd => b__law_right w ⟨rfl, room, gd, pass0⟩ (fun c => ⟨c.calm, c.room, c.gd, pass0⟩) (passes_of rfl))
    (fun _ D => fng (more := 1) D sc_law rfl rfl fun cdv A outer s H E room gd => b_law w ⟨rfl, room, gd, pass0⟩ (fun c => ⟨c.calm, c.room, c.gd, pass0⟩) (passes_of rfl))
end
def fn : List He.DefD := [⟨("is_integer", none), "is_integer", "is_integer", defArgs (top 1), defBody (top 1), defScope (top 1), [], []⟩,
  ⟨("is_count", none), "is_count", "is_count", defArgs (top 2), defBody (top 2), defScope (top 2), [], []⟩,
  ⟨("is_shaped", none), "is_shaped", "is_shaped", defArgs (top 13), defBody (top 13), defScope (top 13), [], []⟩,
  ⟨("signs_of", none), "signs_of", "signs_of", defArgs (top 14), defBody (top 14), defScope (top 14), [], []⟩,
  ⟨("is_kind", none), "is_kind", "is_kind", defArgs (top 15), defBody (top 15), defScope (top 15), [], []⟩,
  ⟨("is_a_kind", none), "is_a_kind", "is_a_kind", defArgs (top 16), defBody (top 16), defScope (top 16), [], []⟩,
  ⟨("_law_pot", none), "_law_pot", "_law_pot", defArgs (top 18), defBody (top 18), defScope (top 18), [], []⟩,
  ⟨("_law_draw", none), "_law_draw", "_law_draw", defArgs (top 19), defBody (top 19), defScope (top 19), [], []⟩,
  ⟨("_law_pick", none), "_law_pick", "_law_pick", defArgs (top 20), defBody (top 20), defScope (top 20), [], []⟩,
  ⟨("_law_kind", none), "_law_kind", "_law_kind", defArgs (top 22), defBody (top 22), defScope (top 22), [], []⟩,
  ⟨("_law_signs", none), "_law_signs", "_law_signs", defArgs (top 23), defBody (top 23), defScope (top 23), [], []⟩,
  ⟨("_law_deep", none), "_law_deep", "_law_deep", defArgs (top 24), defBody (top 24), defScope (top 24), [], []⟩,
  ⟨("_law_look", none), "_law_look", "_law_look", defArgs (top 25), defBody (top 25), defScope (top 25), [], []⟩,
  ⟨("_law_is_kind", none), "_law_is_kind", "_law_is_kind", defArgs (top 26), defBody (top 26), defScope (top 26), [], []⟩,
  ⟨("_law_bent", none), "_law_bent", "_law_bent", defArgs (top 27), defBody (top 27), defScope (top 27), [], []⟩,
  ⟨("_law_full", none), "_law_full", "_law_full", defArgs (top 28), defBody (top 28), defScope (top 28), [], []⟩,
  ⟨("_law_row", none), "_law_row", "_law_row", defArgs (top 29), defBody (top 29), defScope (top 29), [], []⟩,
  ⟨("_law_right", none), "_law_right", "_law_right", defArgs (top 30), defBody (top 30), defScope (top 30), [], []⟩,
  ⟨("law", none), "law", "law", defArgs (top 31), defBody (top 31), defScope (top 31), [], []⟩]
def fa : List He.Fa := [.glo "is_integer", .glo "is_count", .glo "is_shaped", .glo "signs_of", .glo "is_kind", .glo "is_a_kind", .glo "_law_pot", .glo "_law_draw", .glo "_law_pick", .glo "_law_kind", .glo "_law_signs", .glo "_law_deep", .glo "_law_look", .glo "_law_is_kind", .glo "_law_bent", .glo "_law_full", .glo "_law_row", .glo "_law_right", .glo "law", .free "abs", .free "all", .free "bool", .free "divmod", .free "int", .free "isinstance", .free "len", .free "list", .free "max", .free "min", .free "range", .free "repr", .free "str", .free "sum", .free "tuple", .glo "DOUBLE", .str "LETTER" "letter", .int "MOST_DEEP" 12, .int "MOST_LETTER" 5, .int "MOST_SIGNS" 60, .str "ONE" "one"]
def ex (K : PySem.W.Frag) : Bool := He.tupB K "DOUBLE" [.str "pair", .str "sum", .str "fun"]
def loose : List Str := (["__name__", "is_integer", "is_count", "LETTER", "ONE", "PAIR", "SUM", "FUN", "DOUBLE", "MOST_LETTER", "MOST_SIGNS", "MOST_DEEP", "is_shaped", "signs_of", "is_kind", "is_a_kind", "_law_pot", "_law_draw", "_law_pick", "_law_mixed", "_law_kind", "_law_signs", "_law_deep", "_law_look", "_law_is_kind", "_law_bent", "_law_full", "_law_row", "_law_right"] : List Str)
abbrev R : PySem.W.OpenRow := PySem.W.OpenLaw.row PySem.Challenge.rw_hasprograms_k11_any_value_as_kind
abbrev hk : PySem.W.Hook := He.hookX 4 fa fn [] [] ex
def ob (s : PySem.W.SharedT) : He.AlX := He.obsX 4 fa fn [] [] ex (HandSHeadRun.getT s)
theorem ob_eq (s : PySem.W.SharedT) : ob s = hk.obs s.abs := He.obsX_eq (HandSHeadRun.getT_eq s)
theorem gf_of {v : World} {h : Heap} {K : PySem.W.Frag} {mg : Str → Option Value} (inK : K.In h) (ns : h.Ns mainGlobals mg) (c : He.SaysX fa fn [] [] ex v h K) : Gf K mg := by
  have d := c.t.d
  have e : (He.tupB K "DOUBLE" [.str "pair", .str "sum", .str "fun"]) = true := c.more
  exact {
    n_abs := He.free_ok inK ns (d.fact 19 (f := .free "abs") rfl),
    n_all := He.free_ok inK ns (d.fact 20 (f := .free "all") rfl),
    n_bool := He.free_ok inK ns (d.fact 21 (f := .free "bool") rfl),
    n_divmod := He.free_ok inK ns (d.fact 22 (f := .free "divmod") rfl),
    n_int := He.free_ok inK ns (d.fact 23 (f := .free "int") rfl),
    n_isinstance := He.free_ok inK ns (d.fact 24 (f := .free "isinstance") rfl),
    n_len := He.free_ok inK ns (d.fact 25 (f := .free "len") rfl),
    n_list := He.free_ok inK ns (d.fact 26 (f := .free "list") rfl),
    n_max := He.free_ok inK ns (d.fact 27 (f := .free "max") rfl),
    n_min := He.free_ok inK ns (d.fact 28 (f := .free "min") rfl),
    n_range := He.free_ok inK ns (d.fact 29 (f := .free "range") rfl),
    n_repr := He.free_ok inK ns (d.fact 30 (f := .free "repr") rfl),
    n_str := He.free_ok inK ns (d.fact 31 (f := .free "str") rfl),
    n_sum := He.free_ok inK ns (d.fact 32 (f := .free "sum") rfl),
    n_tuple := He.free_ok inK ns (d.fact 33 (f := .free "tuple") rfl),
    t_DOUBLE := ⟨He.glo_ok inK ns (d.fact 34 (f := .glo "DOUBLE") rfl), fun H => He.tupB_ok e H⟩,
    s_LETTER := He.str_ok inK ns (d.fact 35 (f := .str "LETTER" "letter") rfl),
    i_MOST_DEEP := He.int_ok inK ns (d.fact 36 (f := .int "MOST_DEEP" 12) rfl),
    i_MOST_LETTER := He.int_ok inK ns (d.fact 37 (f := .int "MOST_LETTER" 5) rfl),
    i_MOST_SIGNS := He.int_ok inK ns (d.fact 38 (f := .int "MOST_SIGNS" 60) rfl),
    s_ONE := He.str_ok inK ns (d.fact 39 (f := .str "ONE" "one") rfl),
    D_is_integer := d.def_ 0 rfl,
    m_is_integer := He.glo_ok inK ns (d.fact 0 (f := .glo "is_integer") rfl),
    D_is_count := d.def_ 1 rfl,
    m_is_count := He.glo_ok inK ns (d.fact 1 (f := .glo "is_count") rfl),
    D_is_shaped := d.def_ 2 rfl,
    m_is_shaped := He.glo_ok inK ns (d.fact 2 (f := .glo "is_shaped") rfl),
    D_signs_of := d.def_ 3 rfl,
    m_signs_of := He.glo_ok inK ns (d.fact 3 (f := .glo "signs_of") rfl),
    D_is_kind := d.def_ 4 rfl,
    m_is_kind := He.glo_ok inK ns (d.fact 4 (f := .glo "is_kind") rfl),
    D_is_a_kind := d.def_ 5 rfl,
    m_is_a_kind := He.glo_ok inK ns (d.fact 5 (f := .glo "is_a_kind") rfl),
    D__law_pot := d.def_ 6 rfl,
    m__law_pot := He.glo_ok inK ns (d.fact 6 (f := .glo "_law_pot") rfl),
    D__law_draw := d.def_ 7 rfl,
    m__law_draw := He.glo_ok inK ns (d.fact 7 (f := .glo "_law_draw") rfl),
    D__law_pick := d.def_ 8 rfl,
    m__law_pick := He.glo_ok inK ns (d.fact 8 (f := .glo "_law_pick") rfl),
    D__law_kind := d.def_ 9 rfl,
    m__law_kind := He.glo_ok inK ns (d.fact 9 (f := .glo "_law_kind") rfl),
    D__law_signs := d.def_ 10 rfl,
    m__law_signs := He.glo_ok inK ns (d.fact 10 (f := .glo "_law_signs") rfl),
    D__law_deep := d.def_ 11 rfl,
    m__law_deep := He.glo_ok inK ns (d.fact 11 (f := .glo "_law_deep") rfl),
    D__law_look := d.def_ 12 rfl,
    m__law_look := He.glo_ok inK ns (d.fact 12 (f := .glo "_law_look") rfl),
    D__law_is_kind := d.def_ 13 rfl,
    m__law_is_kind := He.glo_ok inK ns (d.fact 13 (f := .glo "_law_is_kind") rfl),
    D__law_bent := d.def_ 14 rfl,
    m__law_bent := He.glo_ok inK ns (d.fact 14 (f := .glo "_law_bent") rfl),
    D__law_full := d.def_ 15 rfl,
    m__law_full := He.glo_ok inK ns (d.fact 15 (f := .glo "_law_full") rfl),
    D__law_row := d.def_ 16 rfl,
    m__law_row := He.glo_ok inK ns (d.fact 16 (f := .glo "_law_row") rfl),
    D__law_right := d.def_ 17 rfl,
    m__law_right := He.glo_ok inK ns (d.fact 17 (f := .glo "_law_right") rfl),
    D_law := d.def_ 18 rfl,
    m_law := He.glo_ok inK ns (d.fact 18 (f := .glo "law") rfl) }
theorem run (v : World) : HandSHeadRun.RunEq R (PySem.W.view R.prog [31]) hk ob 3000 loose v := by
  intro os
  kernel_rfl
theorem holds (ans : ∀ ns : List Int, ns.length ≤ 63 → ∃ m, tab bodies 200 18 [.ref 0] (scr ns) = .ok (.bl true) m) : PySem.Challenge.rw_hasprograms_k11_any_value_as_kind.Holds := by
  w_on; o_law
  refine HandSHeadRun.head_any (r := PySem.W.OpenLaw.row PySem.Challenge.rw_hasprograms_k11_any_value_as_kind) (q := PySem.W.view (PySem.W.OpenLaw.row PySem.Challenge.rw_hasprograms_k11_any_value_as_kind).prog [31]) (H := hk) (ob := ob) (M := 3000) (loose := loose) (d := HandSHeadRun.topDef (PySem.W.OpenLaw.row PySem.Challenge.rw_hasprograms_k11_any_value_as_kind).prog 31) (kwd := []) ob_eq
    (by kernel_rfl) (fun s => by kernel_rfl) run (by kernel_rfl) (by kernel_rfl) (by kernel_rfl) (by rfl) (by first | assumption | decide +kernel) (by decide +kernel) ⟨rfl, rfl, rfl, rfl, rfl, by decide +kernel⟩ ?hw ?hc
  case hw => w_witness2
  case hc =>
    refine walk_end (l := PySem.Challenge.rw_hasprograms_k11_any_value_as_kind) (n := 63) (k := 200) (i := 18) (x := "script") (F := tab bodies 200) (CX := CX0) rfl (by decide) (by kernel_rfl) ⟨rfl, by decide, by decide⟩ ?G ans fun _ _ _ _ z => z
    intro v mg fa h Y ns at0
    obtain ⟨K, inK, c⟩ := Y
    have gf := gf_of inK ns c
    have at1 : mg ("law" : Str) = some (.ref fa) := by
      have e : (HandSHeadRun.topDef (PySem.W.OpenLaw.row PySem.Challenge.rw_hasprograms_k11_any_value_as_kind).prog 31).name = ("law" : Str) := by kernel_rfl
      rw [← e]
      exact at0
    obtain rfl : He.ga K "law" = fa := by
      have e := gf.m_law.symm.trans at1
      cases e; rfl
    obtain ⟨fd, D⟩ := gf.D_law
    refine ⟨K, fd, inK, fun s u => D.bindsA (ps := ["script"]) (fun _ _ _ _ _ _ us hl => match us, hl with | [_], _ => rfl) s [u] rfl, fun base _ _ => ?_⟩
    have w := wd (P := (PySem.Challenge.rw_hasprograms_k11_any_value_as_kind).prog) (v := v) (base := base) gf 199
    exact fng (more := 1) D sc_law rfl rfl fun cdv A outer s H E room gd => b_law w ⟨rfl, room, gd, pass0⟩ (fun c => ⟨c.calm, c.room, c.gd, pass0⟩) (passes_of rfl)
end W_k11

set_option Elab.async false
set_option linter.all false
set_option maxRecDepth 100000
namespace W_k11
open PySem Mini
theorem draw_ok {a : Nat} {m : M} {many : Int} (p : Pot a m) (h0 : 0 < many) (h1 : many < 1073741824) (k : Nat) : ∃ r m', tab bodies (k + 1) 7 [.ref a, .int many] m = .ok (.int r) m' ∧ Pot a m' ∧ Ext a m m' ∧ 0 ≤ r ∧ r < many := by
  obtain ⟨g, s, hg, g0, s0, s1⟩ := p
  have alt := M.get_lt hg
  have i0 : ixM 2 (0 : Int) = some 0 := rfl
  have i1 : ixM 2 (1 : Int) = some 1 := rfl
  by_cases h : 0 < g
  · refine ⟨g % many, m.put a (.lst [.int (g / many), .int s]), ?_, ⟨_, _, get_put_self alt, Int.ediv_nonneg g0 (by omega), s0, s1⟩, .put alt, Int.emod_nonneg _ (by omega), Int.emod_lt_of_pos _ h0⟩
    rw [show tab bodies (k + 1) 7 = runB 2 1 (c__law_draw (tab bodies k)) from rfl, x_run rfl]
    simp only [c__law_draw, of_some, v_lit, v_var, v_nil, v_dct0, v_none, x_nil, x_cont, y_nm, y_nil, g_bin20, e_bin1, g_bin10, e_un1, g_un10, g_cons20, e_cons1, g_cons10, g_tup20, e_tup1, g_tup10, g_lst20, e_lst1, g_lst10, g_fun20, e_fun1, g_fun10, g_key20, e_key1, g_key10, e_ap1, g_ap10, e_pick, g_pick0, g_pick1, g_pick2, g_pick3, e_sif, e_and1, g_and10, g_and11, e_or1, g_or10, g_or11, e_not1, g_not, g_chain40, g_chain30, g_chain31, g_chain20, e_chain1, g_chain10, e_val1, g_val, e_tru1, g_tru10, e_tand, g_tand0, g_tand1, e_tor, g_tor0, g_tor1, e_tnot, g_tnot, g_isi2, e_isi1, g_isi10, g_sl30, g_sl20, e_sl1, g_sl10, e_part1, g_part10, g_meA0, e_me0, g_me00, g_meB0, e_me1, g_me10, e_seq1, g_seq10, g_seq11, g_seq12, e_ret1, g_ret10, e_expr1, g_expr10, g_asg20, e_asg1, g_asg10, g_par20, e_par1, g_par10, e_gtup, g_gtup0, e_gs1, g_gs10, g_sub20, e_sub1, g_sub10, g_run10, g_run11, add_ii, ixt0, ixt1, ixt2, len_t0, len_t1, len_t2, len_t3, mkS, List.map_cons, List.map_nil, List.replicate, List.cons_append, List.nil_append, List.length_cons, List.length_nil, Nat.zero_add, Nat.reduceAdd, Nat.reduceBEq, Nat.beq, cond_true, cond_false, nth, setN, at?, oSub, oMul, oDiv, oMod, uNeg, oCmpI, oLt, oLe, oGt, oGe, subS, setAll, bInt, bDivmod, bAbs, bMax2, truM, isTys, isTy, Bool.or_false, Bool.false_or, Bool.true_or, Bool.or_true, Bool.and_true, Bool.true_and, Bool.and_false, Bool.false_and, Bool.not_true, Bool.not_false, eq_str, eq_int, ne_str, ne_int, nat_beq, Int.reduceEq, Int.reduceLT, Int.reduceLE, decide_true, decide_false, reduceCtorEq, hg, i0, i1, oIx, seqM, decide_eq_true h, posInt_of h0, toNat_small h1, Bool.and_true]
  · have q1 : (0 : Int) ≤ (s * 39373 + 1019) % 2147483587 := Int.emod_nonneg _ (by decide)
    have q2 : (s * 39373 + 1019) % 2147483587 < 2147483587 := Int.emod_lt_of_pos _ (by decide)
    refine ⟨((s * 39373 + 1019) % 2147483587 * ((s * 39373 + 1019) % 2147483587)) % 2147483563 / 19 % many, m.put a (.lst [.int g, .int ((s * 39373 + 1019) % 2147483587)]), ?_, ⟨_, _, get_put_self alt, g0, q1, by omega⟩, .put alt, Int.emod_nonneg _ (by omega), Int.emod_lt_of_pos _ h0⟩
    rw [show tab bodies (k + 1) 7 = runB 2 1 (c__law_draw (tab bodies k)) from rfl, x_run rfl]
    have e : (decide ((0 : Int) < g)) = false := decide_eq_false h
    simp only [c__law_draw, of_some, v_lit, v_var, v_nil, v_dct0, v_none, x_nil, x_cont, y_nm, y_nil, g_bin20, e_bin1, g_bin10, e_un1, g_un10, g_cons20, e_cons1, g_cons10, g_tup20, e_tup1, g_tup10, g_lst20, e_lst1, g_lst10, g_fun20, e_fun1, g_fun10, g_key20, e_key1, g_key10, e_ap1, g_ap10, e_pick, g_pick0, g_pick1, g_pick2, g_pick3, e_sif, e_and1, g_and10, g_and11, e_or1, g_or10, g_or11, e_not1, g_not, g_chain40, g_chain30, g_chain31, g_chain20, e_chain1, g_chain10, e_val1, g_val, e_tru1, g_tru10, e_tand, g_tand0, g_tand1, e_tor, g_tor0, g_tor1, e_tnot, g_tnot, g_isi2, e_isi1, g_isi10, g_sl30, g_sl20, e_sl1, g_sl10, e_part1, g_part10, g_meA0, e_me0, g_me00, g_meB0, e_me1, g_me10, e_seq1, g_seq10, g_seq11, g_seq12, e_ret1, g_ret10, e_expr1, g_expr10, g_asg20, e_asg1, g_asg10, g_par20, e_par1, g_par10, e_gtup, g_gtup0, e_gs1, g_gs10, g_sub20, e_sub1, g_sub10, g_run10, g_run11, add_ii, ixt0, ixt1, ixt2, len_t0, len_t1, len_t2, len_t3, mkS, List.map_cons, List.map_nil, List.replicate, List.cons_append, List.nil_append, List.length_cons, List.length_nil, Nat.zero_add, Nat.reduceAdd, Nat.reduceBEq, Nat.beq, cond_true, cond_false, nth, setN, at?, oSub, oMul, oDiv, oMod, uNeg, oCmpI, oLt, oLe, oGt, oGe, subS, setAll, bInt, bDivmod, bAbs, bMax2, truM, isTys, isTy, Bool.or_false, Bool.false_or, Bool.true_or, Bool.or_true, Bool.and_true, Bool.true_and, Bool.and_false, Bool.false_and, Bool.not_true, Bool.not_false, eq_str, eq_int, ne_str, ne_int, nat_beq, Int.reduceEq, Int.reduceLT, Int.reduceLE, decide_true, decide_false, reduceCtorEq, hg, i0, i1, oIx, seqM, e, get_put_self alt, posInt_of h0, small64_of s0 s1, small64_of q1 (show (s * 39373 + 1019) % 2147483587 < 2147483648 by omega), Bool.true_or, show posInt 2147483587 = true from rfl, show posInt 2147483563 = true from rfl, show posInt 19 = true from rfl, show (19 : Int).toNat.blt 1073741824 = true from rfl, Bool.and_true]
end W_k11

set_option Elab.async false
set_option linter.all false
set_option maxRecDepth 100000
set_option maxHeartbeats 1000000
namespace W_k11
open PySem Mini
def dbl (w : Str) : Bool := strEq "pair" w || (strEq "sum" w || (strEq "fun" w || false))
def lk : Nat → MV → Bool
  | 0, _ => false
  | d + 1, v => match v with
    | .tup (.str w :: r) =>
      bif strEq w "letter" then (match r with
        | [.int i] => decide (0 ≤ i) && decide (i ≤ 5)
        | _ => false)
      else bif strEq w "one" then r.isEmpty
      else dbl w && (match r with
        | [x, y] => lk d x && lk d y
        | _ => false)
    | _ => false
def isI : MV → Bool
  | .int _ => true
  | _ => false
def cnt : MV → Bool
  | .int i => decide (0 ≤ i)
  | _ => false
section
variable {a : Nat} {m : M} {v : MV} {w h : Nat}
theorem int_ok (n : Nice a m [v] w h) (k : Nat) : tab bodies (k + 1) 0 [v] m = .ok (.bl (isI v)) m := by
  rw [show tab bodies (k + 1) 0 = runB 1 0 (c_is_integer (tab bodies k)) from rfl, x_run rfl]
  cases n.form with
  | lst b l g => simp only [c_is_integer, of_some, v_lit, v_var, v_nil, v_dct0, v_none, x_nil, x_cont, y_nm, y_nil, g_bin20, e_bin1, g_bin10, e_un1, g_un10, g_cons20, e_cons1, g_cons10, g_tup20, e_tup1, g_tup10, g_lst20, e_lst1, g_lst10, g_fun20, e_fun1, g_fun10, g_key20, e_key1, g_key10, e_ap1, g_ap10, e_pick, g_pick0, g_pick1, g_pick2, g_pick3, e_sif, e_and1, g_and10, g_and11, e_or1, g_or10, g_or11, e_not1, g_not, g_chain40, g_chain30, g_chain31, g_chain20, e_chain1, g_chain10, e_val1, g_val, e_tru1, g_tru10, e_tand, g_tand0, g_tand1, e_tor, g_tor0, g_tor1, e_tnot, g_tnot, g_isi2, e_isi1, g_isi10, g_sl30, g_sl20, e_sl1, g_sl10, e_part1, g_part10, g_meA0, e_me0, g_me00, g_meB0, e_me1, g_me10, e_seq1, g_seq10, g_seq11, g_seq12, e_ret1, g_ret10, e_expr1, g_expr10, g_asg20, e_asg1, g_asg10, g_par20, e_par1, g_par10, e_gtup, g_gtup0, e_gs1, g_gs10, g_sub20, e_sub1, g_sub10, g_run10, g_run11, add_ii, ixt0, ixt1, ixt2, len_t0, len_t1, len_t2, len_t3, mkS, List.map_cons, List.map_nil, List.replicate, List.cons_append, List.nil_append, List.length_cons, List.length_nil, Nat.zero_add, Nat.reduceAdd, Nat.reduceBEq, Nat.beq, cond_true, cond_false, nth, setN, at?, oSub, oMul, oDiv, oMod, uNeg, oCmpI, oLt, oLe, oGt, oGe, subS, setAll, bInt, bDivmod, bAbs, bMax2, truM, isTys, isTy, Bool.or_false, Bool.false_or, Bool.true_or, Bool.or_true, Bool.and_true, Bool.true_and, Bool.and_false, Bool.false_and, Bool.not_true, Bool.not_false, eq_str, eq_int, ne_str, ne_int, nat_beq, Int.reduceEq, Int.reduceLT, Int.reduceLE, decide_true, decide_false, reduceCtorEq, g]; rfl
  | _ => simp only [c_is_integer, of_some, v_lit, v_var, v_nil, v_dct0, v_none, x_nil, x_cont, y_nm, y_nil, g_bin20, e_bin1, g_bin10, e_un1, g_un10, g_cons20, e_cons1, g_cons10, g_tup20, e_tup1, g_tup10, g_lst20, e_lst1, g_lst10, g_fun20, e_fun1, g_fun10, g_key20, e_key1, g_key10, e_ap1, g_ap10, e_pick, g_pick0, g_pick1, g_pick2, g_pick3, e_sif, e_and1, g_and10, g_and11, e_or1, g_or10, g_or11, e_not1, g_not, g_chain40, g_chain30, g_chain31, g_chain20, e_chain1, g_chain10, e_val1, g_val, e_tru1, g_tru10, e_tand, g_tand0, g_tand1, e_tor, g_tor0, g_tor1, e_tnot, g_tnot, g_isi2, e_isi1, g_isi10, g_sl30, g_sl20, e_sl1, g_sl10, e_part1, g_part10, g_meA0, e_me0, g_me00, g_meB0, e_me1, g_me10, e_seq1, g_seq10, g_seq11, g_seq12, e_ret1, g_ret10, e_expr1, g_expr10, g_asg20, e_asg1, g_asg10, g_par20, e_par1, g_par10, e_gtup, g_gtup0, e_gs1, g_gs10, g_sub20, e_sub1, g_sub10, g_run10, g_run11, add_ii, ixt0, ixt1, ixt2, len_t0, len_t1, len_t2, len_t3, mkS, List.map_cons, List.map_nil, List.replicate, List.cons_append, List.nil_append, List.length_cons, List.length_nil, Nat.zero_add, Nat.reduceAdd, Nat.reduceBEq, Nat.beq, cond_true, cond_false, nth, setN, at?, oSub, oMul, oDiv, oMod, uNeg, oCmpI, oLt, oLe, oGt, oGe, subS, setAll, bInt, bDivmod, bAbs, bMax2, truM, isTys, isTy, Bool.or_false, Bool.false_or, Bool.true_or, Bool.or_true, Bool.and_true, Bool.true_and, Bool.and_false, Bool.false_and, Bool.not_true, Bool.not_false, eq_str, eq_int, ne_str, ne_int, nat_beq, Int.reduceEq, Int.reduceLT, Int.reduceLE, decide_true, decide_false, reduceCtorEq]; rfl
theorem cnt_ok (n : Nice a m [v] w h) (k : Nat) : tab bodies (k + 2) 1 [v] m = .ok (.bl (cnt v)) m := by
  rw [show tab bodies (k + 2) 1 = runB 1 0 (c_is_count (tab bodies (k + 1))) from rfl, x_run rfl]
  have z := int_ok n k
  cases n.form with
  | lst b l g => simp only [c_is_count, of_some, v_lit, v_var, v_nil, v_dct0, v_none, x_nil, x_cont, y_nm, y_nil, g_bin20, e_bin1, g_bin10, e_un1, g_un10, g_cons20, e_cons1, g_cons10, g_tup20, e_tup1, g_tup10, g_lst20, e_lst1, g_lst10, g_fun20, e_fun1, g_fun10, g_key20, e_key1, g_key10, e_ap1, g_ap10, e_pick, g_pick0, g_pick1, g_pick2, g_pick3, e_sif, e_and1, g_and10, g_and11, e_or1, g_or10, g_or11, e_not1, g_not, g_chain40, g_chain30, g_chain31, g_chain20, e_chain1, g_chain10, e_val1, g_val, e_tru1, g_tru10, e_tand, g_tand0, g_tand1, e_tor, g_tor0, g_tor1, e_tnot, g_tnot, g_isi2, e_isi1, g_isi10, g_sl30, g_sl20, e_sl1, g_sl10, e_part1, g_part10, g_meA0, e_me0, g_me00, g_meB0, e_me1, g_me10, e_seq1, g_seq10, g_seq11, g_seq12, e_ret1, g_ret10, e_expr1, g_expr10, g_asg20, e_asg1, g_asg10, g_par20, e_par1, g_par10, e_gtup, g_gtup0, e_gs1, g_gs10, g_sub20, e_sub1, g_sub10, g_run10, g_run11, add_ii, ixt0, ixt1, ixt2, len_t0, len_t1, len_t2, len_t3, mkS, List.map_cons, List.map_nil, List.replicate, List.cons_append, List.nil_append, List.length_cons, List.length_nil, Nat.zero_add, Nat.reduceAdd, Nat.reduceBEq, Nat.beq, cond_true, cond_false, nth, setN, at?, oSub, oMul, oDiv, oMod, uNeg, oCmpI, oLt, oLe, oGt, oGe, subS, setAll, bInt, bDivmod, bAbs, bMax2, truM, isTys, isTy, Bool.or_false, Bool.false_or, Bool.true_or, Bool.or_true, Bool.and_true, Bool.true_and, Bool.and_false, Bool.false_and, Bool.not_true, Bool.not_false, eq_str, eq_int, ne_str, ne_int, nat_beq, Int.reduceEq, Int.reduceLT, Int.reduceLE, decide_true, decide_false, reduceCtorEq, z]; rfl
  | _ => simp only [c_is_count, of_some, v_lit, v_var, v_nil, v_dct0, v_none, x_nil, x_cont, y_nm, y_nil, g_bin20, e_bin1, g_bin10, e_un1, g_un10, g_cons20, e_cons1, g_cons10, g_tup20, e_tup1, g_tup10, g_lst20, e_lst1, g_lst10, g_fun20, e_fun1, g_fun10, g_key20, e_key1, g_key10, e_ap1, g_ap10, e_pick, g_pick0, g_pick1, g_pick2, g_pick3, e_sif, e_and1, g_and10, g_and11, e_or1, g_or10, g_or11, e_not1, g_not, g_chain40, g_chain30, g_chain31, g_chain20, e_chain1, g_chain10, e_val1, g_val, e_tru1, g_tru10, e_tand, g_tand0, g_tand1, e_tor, g_tor0, g_tor1, e_tnot, g_tnot, g_isi2, e_isi1, g_isi10, g_sl30, g_sl20, e_sl1, g_sl10, e_part1, g_part10, g_meA0, e_me0, g_me00, g_meB0, e_me1, g_me10, e_seq1, g_seq10, g_seq11, g_seq12, e_ret1, g_ret10, e_expr1, g_expr10, g_asg20, e_asg1, g_asg10, g_par20, e_par1, g_par10, e_gtup, g_gtup0, e_gs1, g_gs10, g_sub20, e_sub1, g_sub10, g_run10, g_run11, add_ii, ixt0, ixt1, ixt2, len_t0, len_t1, len_t2, len_t3, mkS, List.map_cons, List.map_nil, List.replicate, List.cons_append, List.nil_append, List.length_cons, List.length_nil, Nat.zero_add, Nat.reduceAdd, Nat.reduceBEq, Nat.beq, cond_true, cond_false, nth, setN, at?, oSub, oMul, oDiv, oMod, uNeg, oCmpI, oLt, oLe, oGt, oGe, subS, setAll, bInt, bDivmod, bAbs, bMax2, truM, isTys, isTy, Bool.or_false, Bool.false_or, Bool.true_or, Bool.or_true, Bool.and_true, Bool.true_and, Bool.and_false, Bool.false_and, Bool.not_true, Bool.not_false, eq_str, eq_int, ne_str, ne_int, nat_beq, Int.reduceEq, Int.reduceLT, Int.reduceLE, decide_true, decide_false, reduceCtorEq, z]; rfl
theorem in_dbl {x : Str} : oIn true (.str x) (.tup t_DOUBLE) m = .ok (.bl (!dbl x)) m := rfl
theorem shaped_ok : ∀ (d : Nat) {v : MV} {w h : Nat}, Nice a m [v] w h → w ≤ 600000 → h ≤ 60 → ∀ k, d + 3 ≤ k → tab bodies k 2 [v, .int d] m = .ok (.bl (lk d v)) m
  | 0, v, w, h, n, _, _, k, hk => by
    obtain ⟨k, rfl⟩ : ∃ j, k = j + 1 := ⟨k - 1, by omega⟩
    rw [show tab bodies (k + 1) 2 = runB 2 0 (c_is_shaped (tab bodies k)) from rfl, x_run rfl]
    simp only [c_is_shaped, of_some, v_lit, v_var, v_nil, v_dct0, v_none, x_nil, x_cont, y_nm, y_nil, g_bin20, e_bin1, g_bin10, e_un1, g_un10, g_cons20, e_cons1, g_cons10, g_tup20, e_tup1, g_tup10, g_lst20, e_lst1, g_lst10, g_fun20, e_fun1, g_fun10, g_key20, e_key1, g_key10, e_ap1, g_ap10, e_pick, g_pick0, g_pick1, g_pick2, g_pick3, e_sif, e_and1, g_and10, g_and11, e_or1, g_or10, g_or11, e_not1, g_not, g_chain40, g_chain30, g_chain31, g_chain20, e_chain1, g_chain10, e_val1, g_val, e_tru1, g_tru10, e_tand, g_tand0, g_tand1, e_tor, g_tor0, g_tor1, e_tnot, g_tnot, g_isi2, e_isi1, g_isi10, g_sl30, g_sl20, e_sl1, g_sl10, e_part1, g_part10, g_meA0, e_me0, g_me00, g_meB0, e_me1, g_me10, e_seq1, g_seq10, g_seq11, g_seq12, e_ret1, g_ret10, e_expr1, g_expr10, g_asg20, e_asg1, g_asg10, g_par20, e_par1, g_par10, e_gtup, g_gtup0, e_gs1, g_gs10, g_sub20, e_sub1, g_sub10, g_run10, g_run11, add_ii, ixt0, ixt1, ixt2, len_t0, len_t1, len_t2, len_t3, mkS, List.map_cons, List.map_nil, List.replicate, List.cons_append, List.nil_append, List.length_cons, List.length_nil, Nat.zero_add, Nat.reduceAdd, Nat.reduceBEq, Nat.beq, cond_true, cond_false, nth, setN, at?, oSub, oMul, oDiv, oMod, uNeg, oCmpI, oLt, oLe, oGt, oGe, subS, setAll, bInt, bDivmod, bAbs, bMax2, truM, isTys, isTy, Bool.or_false, Bool.false_or, Bool.true_or, Bool.or_true, Bool.and_true, Bool.true_and, Bool.and_false, Bool.false_and, Bool.not_true, Bool.not_false, eq_str, eq_int, ne_str, ne_int, nat_beq, Int.reduceEq, Int.reduceLT, Int.reduceLE, decide_true, decide_false, reduceCtorEq]
    rfl
  | d + 1, v, w, h, n, hw, hh, k, hk => by
    obtain ⟨k, rfl⟩ : ∃ j, k = j + 2 := ⟨k - 2, by omega⟩
    rw [show tab bodies (k + 2) 2 = runB 2 0 (c_is_shaped (tab bodies (k + 1))) from rfl, x_run rfl]
    have e0 : decide (((d + 1 : Nat) : Int) < 1) = false := decide_eq_false (by omega)
    have e1 : ((d + 1 : Nat) : Int) - 1 = (d : Int) := by omega
    cases n.form with
    | lst b l g => simp only [c_is_shaped, of_some, v_lit, v_var, v_nil, v_dct0, v_none, x_nil, x_cont, y_nm, y_nil, g_bin20, e_bin1, g_bin10, e_un1, g_un10, g_cons20, e_cons1, g_cons10, g_tup20, e_tup1, g_tup10, g_lst20, e_lst1, g_lst10, g_fun20, e_fun1, g_fun10, g_key20, e_key1, g_key10, e_ap1, g_ap10, e_pick, g_pick0, g_pick1, g_pick2, g_pick3, e_sif, e_and1, g_and10, g_and11, e_or1, g_or10, g_or11, e_not1, g_not, g_chain40, g_chain30, g_chain31, g_chain20, e_chain1, g_chain10, e_val1, g_val, e_tru1, g_tru10, e_tand, g_tand0, g_tand1, e_tor, g_tor0, g_tor1, e_tnot, g_tnot, g_isi2, e_isi1, g_isi10, g_sl30, g_sl20, e_sl1, g_sl10, e_part1, g_part10, g_meA0, e_me0, g_me00, g_meB0, e_me1, g_me10, e_seq1, g_seq10, g_seq11, g_seq12, e_ret1, g_ret10, e_expr1, g_expr10, g_asg20, e_asg1, g_asg10, g_par20, e_par1, g_par10, e_gtup, g_gtup0, e_gs1, g_gs10, g_sub20, e_sub1, g_sub10, g_run10, g_run11, add_ii, ixt0, ixt1, ixt2, len_t0, len_t1, len_t2, len_t3, mkS, List.map_cons, List.map_nil, List.replicate, List.cons_append, List.nil_append, List.length_cons, List.length_nil, Nat.zero_add, Nat.reduceAdd, Nat.reduceBEq, Nat.beq, cond_true, cond_false, nth, setN, at?, oSub, oMul, oDiv, oMod, uNeg, oCmpI, oLt, oLe, oGt, oGe, subS, setAll, bInt, bDivmod, bAbs, bMax2, truM, isTys, isTy, Bool.or_false, Bool.false_or, Bool.true_or, Bool.or_true, Bool.and_true, Bool.true_and, Bool.and_false, Bool.false_and, Bool.not_true, Bool.not_false, eq_str, eq_int, ne_str, ne_int, nat_beq, Int.reduceEq, Int.reduceLT, Int.reduceLE, decide_true, decide_false, reduceCtorEq, g, e0]; rfl
    | non => simp only [c_is_shaped, of_some, v_lit, v_var, v_nil, v_dct0, v_none, x_nil, x_cont, y_nm, y_nil, g_bin20, e_bin1, g_bin10, e_un1, g_un10, g_cons20, e_cons1, g_cons10, g_tup20, e_tup1, g_tup10, g_lst20, e_lst1, g_lst10, g_fun20, e_fun1, g_fun10, g_key20, e_key1, g_key10, e_ap1, g_ap10, e_pick, g_pick0, g_pick1, g_pick2, g_pick3, e_sif, e_and1, g_and10, g_and11, e_or1, g_or10, g_or11, e_not1, g_not, g_chain40, g_chain30, g_chain31, g_chain20, e_chain1, g_chain10, e_val1, g_val, e_tru1, g_tru10, e_tand, g_tand0, g_tand1, e_tor, g_tor0, g_tor1, e_tnot, g_tnot, g_isi2, e_isi1, g_isi10, g_sl30, g_sl20, e_sl1, g_sl10, e_part1, g_part10, g_meA0, e_me0, g_me00, g_meB0, e_me1, g_me10, e_seq1, g_seq10, g_seq11, g_seq12, e_ret1, g_ret10, e_expr1, g_expr10, g_asg20, e_asg1, g_asg10, g_par20, e_par1, g_par10, e_gtup, g_gtup0, e_gs1, g_gs10, g_sub20, e_sub1, g_sub10, g_run10, g_run11, add_ii, ixt0, ixt1, ixt2, len_t0, len_t1, len_t2, len_t3, mkS, List.map_cons, List.map_nil, List.replicate, List.cons_append, List.nil_append, List.length_cons, List.length_nil, Nat.zero_add, Nat.reduceAdd, Nat.reduceBEq, Nat.beq, cond_true, cond_false, nth, setN, at?, oSub, oMul, oDiv, oMod, uNeg, oCmpI, oLt, oLe, oGt, oGe, subS, setAll, bInt, bDivmod, bAbs, bMax2, truM, isTys, isTy, Bool.or_false, Bool.false_or, Bool.true_or, Bool.or_true, Bool.and_true, Bool.true_and, Bool.and_false, Bool.false_and, Bool.not_true, Bool.not_false, eq_str, eq_int, ne_str, ne_int, nat_beq, Int.reduceEq, Int.reduceLT, Int.reduceLE, decide_true, decide_false, reduceCtorEq, e0]; rfl
    | bl b => simp only [c_is_shaped, of_some, v_lit, v_var, v_nil, v_dct0, v_none, x_nil, x_cont, y_nm, y_nil, g_bin20, e_bin1, g_bin10, e_un1, g_un10, g_cons20, e_cons1, g_cons10, g_tup20, e_tup1, g_tup10, g_lst20, e_lst1, g_lst10, g_fun20, e_fun1, g_fun10, g_key20, e_key1, g_key10, e_ap1, g_ap10, e_pick, g_pick0, g_pick1, g_pick2, g_pick3, e_sif, e_and1, g_and10, g_and11, e_or1, g_or10, g_or11, e_not1, g_not, g_chain40, g_chain30, g_chain31, g_chain20, e_chain1, g_chain10, e_val1, g_val, e_tru1, g_tru10, e_tand, g_tand0, g_tand1, e_tor, g_tor0, g_tor1, e_tnot, g_tnot, g_isi2, e_isi1, g_isi10, g_sl30, g_sl20, e_sl1, g_sl10, e_part1, g_part10, g_meA0, e_me0, g_me00, g_meB0, e_me1, g_me10, e_seq1, g_seq10, g_seq11, g_seq12, e_ret1, g_ret10, e_expr1, g_expr10, g_asg20, e_asg1, g_asg10, g_par20, e_par1, g_par10, e_gtup, g_gtup0, e_gs1, g_gs10, g_sub20, e_sub1, g_sub10, g_run10, g_run11, add_ii, ixt0, ixt1, ixt2, len_t0, len_t1, len_t2, len_t3, mkS, List.map_cons, List.map_nil, List.replicate, List.cons_append, List.nil_append, List.length_cons, List.length_nil, Nat.zero_add, Nat.reduceAdd, Nat.reduceBEq, Nat.beq, cond_true, cond_false, nth, setN, at?, oSub, oMul, oDiv, oMod, uNeg, oCmpI, oLt, oLe, oGt, oGe, subS, setAll, bInt, bDivmod, bAbs, bMax2, truM, isTys, isTy, Bool.or_false, Bool.false_or, Bool.true_or, Bool.or_true, Bool.and_true, Bool.true_and, Bool.and_false, Bool.false_and, Bool.not_true, Bool.not_false, eq_str, eq_int, ne_str, ne_int, nat_beq, Int.reduceEq, Int.reduceLT, Int.reduceLE, decide_true, decide_false, reduceCtorEq, e0]; rfl
    | int i => simp only [c_is_shaped, of_some, v_lit, v_var, v_nil, v_dct0, v_none, x_nil, x_cont, y_nm, y_nil, g_bin20, e_bin1, g_bin10, e_un1, g_un10, g_cons20, e_cons1, g_cons10, g_tup20, e_tup1, g_tup10, g_lst20, e_lst1, g_lst10, g_fun20, e_fun1, g_fun10, g_key20, e_key1, g_key10, e_ap1, g_ap10, e_pick, g_pick0, g_pick1, g_pick2, g_pick3, e_sif, e_and1, g_and10, g_and11, e_or1, g_or10, g_or11, e_not1, g_not, g_chain40, g_chain30, g_chain31, g_chain20, e_chain1, g_chain10, e_val1, g_val, e_tru1, g_tru10, e_tand, g_tand0, g_tand1, e_tor, g_tor0, g_tor1, e_tnot, g_tnot, g_isi2, e_isi1, g_isi10, g_sl30, g_sl20, e_sl1, g_sl10, e_part1, g_part10, g_meA0, e_me0, g_me00, g_meB0, e_me1, g_me10, e_seq1, g_seq10, g_seq11, g_seq12, e_ret1, g_ret10, e_expr1, g_expr10, g_asg20, e_asg1, g_asg10, g_par20, e_par1, g_par10, e_gtup, g_gtup0, e_gs1, g_gs10, g_sub20, e_sub1, g_sub10, g_run10, g_run11, add_ii, ixt0, ixt1, ixt2, len_t0, len_t1, len_t2, len_t3, mkS, List.map_cons, List.map_nil, List.replicate, List.cons_append, List.nil_append, List.length_cons, List.length_nil, Nat.zero_add, Nat.reduceAdd, Nat.reduceBEq, Nat.beq, cond_true, cond_false, nth, setN, at?, oSub, oMul, oDiv, oMod, uNeg, oCmpI, oLt, oLe, oGt, oGe, subS, setAll, bInt, bDivmod, bAbs, bMax2, truM, isTys, isTy, Bool.or_false, Bool.false_or, Bool.true_or, Bool.or_true, Bool.and_true, Bool.true_and, Bool.and_false, Bool.false_and, Bool.not_true, Bool.not_false, eq_str, eq_int, ne_str, ne_int, nat_beq, Int.reduceEq, Int.reduceLT, Int.reduceLE, decide_true, decide_false, reduceCtorEq, e0]; rfl
    | str x => simp only [c_is_shaped, of_some, v_lit, v_var, v_nil, v_dct0, v_none, x_nil, x_cont, y_nm, y_nil, g_bin20, e_bin1, g_bin10, e_un1, g_un10, g_cons20, e_cons1, g_cons10, g_tup20, e_tup1, g_tup10, g_lst20, e_lst1, g_lst10, g_fun20, e_fun1, g_fun10, g_key20, e_key1, g_key10, e_ap1, g_ap10, e_pick, g_pick0, g_pick1, g_pick2, g_pick3, e_sif, e_and1, g_and10, g_and11, e_or1, g_or10, g_or11, e_not1, g_not, g_chain40, g_chain30, g_chain31, g_chain20, e_chain1, g_chain10, e_val1, g_val, e_tru1, g_tru10, e_tand, g_tand0, g_tand1, e_tor, g_tor0, g_tor1, e_tnot, g_tnot, g_isi2, e_isi1, g_isi10, g_sl30, g_sl20, e_sl1, g_sl10, e_part1, g_part10, g_meA0, e_me0, g_me00, g_meB0, e_me1, g_me10, e_seq1, g_seq10, g_seq11, g_seq12, e_ret1, g_ret10, e_expr1, g_expr10, g_asg20, e_asg1, g_asg10, g_par20, e_par1, g_par10, e_gtup, g_gtup0, e_gs1, g_gs10, g_sub20, e_sub1, g_sub10, g_run10, g_run11, add_ii, ixt0, ixt1, ixt2, len_t0, len_t1, len_t2, len_t3, mkS, List.map_cons, List.map_nil, List.replicate, List.cons_append, List.nil_append, List.length_cons, List.length_nil, Nat.zero_add, Nat.reduceAdd, Nat.reduceBEq, Nat.beq, cond_true, cond_false, nth, setN, at?, oSub, oMul, oDiv, oMod, uNeg, oCmpI, oLt, oLe, oGt, oGe, subS, setAll, bInt, bDivmod, bAbs, bMax2, truM, isTys, isTy, Bool.or_false, Bool.false_or, Bool.true_or, Bool.or_true, Bool.and_true, Bool.true_and, Bool.and_false, Bool.false_and, Bool.not_true, Bool.not_false, eq_str, eq_int, ne_str, ne_int, nat_beq, Int.reduceEq, Int.reduceLT, Int.reduceLE, decide_true, decide_false, reduceCtorEq, e0]; rfl
    | tup l =>
      have eu : oEq (.tup l) (.tup []) m = .ok (.bl l.isEmpty) m := by
        show (match eqM m (.tup l) (.tup []) with | some b => Rs.ok (MV.bl b) m | none => .bad) = _
        rw [eq_unit n hw hh]
      have ft : fits 0 = true := rfl
      cases l with
      | nil => simp only [c_is_shaped, of_some, v_lit, v_var, v_nil, v_dct0, v_none, x_nil, x_cont, y_nm, y_nil, g_bin20, e_bin1, g_bin10, e_un1, g_un10, g_cons20, e_cons1, g_cons10, g_tup20, e_tup1, g_tup10, g_lst20, e_lst1, g_lst10, g_fun20, e_fun1, g_fun10, g_key20, e_key1, g_key10, e_ap1, g_ap10, e_pick, g_pick0, g_pick1, g_pick2, g_pick3, e_sif, e_and1, g_and10, g_and11, e_or1, g_or10, g_or11, e_not1, g_not, g_chain40, g_chain30, g_chain31, g_chain20, e_chain1, g_chain10, e_val1, g_val, e_tru1, g_tru10, e_tand, g_tand0, g_tand1, e_tor, g_tor0, g_tor1, e_tnot, g_tnot, g_isi2, e_isi1, g_isi10, g_sl30, g_sl20, e_sl1, g_sl10, e_part1, g_part10, g_meA0, e_me0, g_me00, g_meB0, e_me1, g_me10, e_seq1, g_seq10, g_seq11, g_seq12, e_ret1, g_ret10, e_expr1, g_expr10, g_asg20, e_asg1, g_asg10, g_par20, e_par1, g_par10, e_gtup, g_gtup0, e_gs1, g_gs10, g_sub20, e_sub1, g_sub10, g_run10, g_run11, add_ii, ixt0, ixt1, ixt2, len_t0, len_t1, len_t2, len_t3, mkS, List.map_cons, List.map_nil, List.replicate, List.cons_append, List.nil_append, List.length_cons, List.length_nil, Nat.zero_add, Nat.reduceAdd, Nat.reduceBEq, Nat.beq, cond_true, cond_false, nth, setN, at?, oSub, oMul, oDiv, oMod, uNeg, oCmpI, oLt, oLe, oGt, oGe, subS, setAll, bInt, bDivmod, bAbs, bMax2, truM, isTys, isTy, Bool.or_false, Bool.false_or, Bool.true_or, Bool.or_true, Bool.and_true, Bool.true_and, Bool.and_false, Bool.false_and, Bool.not_true, Bool.not_false, eq_str, eq_int, ne_str, ne_int, nat_beq, Int.reduceEq, Int.reduceLT, Int.reduceLE, decide_true, decide_false, reduceCtorEq, e0, eu, ft, List.isEmpty]; rfl
      | cons x r =>
        obtain ⟨h0, rfl, ni⟩ := n.items
        obtain ⟨nx, nr⟩ := ni.uncons
        have i0 : ixM (r.length + 1) (0 : Int) = some 0 := ixM_of (Nat.succ_pos _)
        cases nx.form with
        | lst b l g => simp only [c_is_shaped, of_some, v_lit, v_var, v_nil, v_dct0, v_none, x_nil, x_cont, y_nm, y_nil, g_bin20, e_bin1, g_bin10, e_un1, g_un10, g_cons20, e_cons1, g_cons10, g_tup20, e_tup1, g_tup10, g_lst20, e_lst1, g_lst10, g_fun20, e_fun1, g_fun10, g_key20, e_key1, g_key10, e_ap1, g_ap10, e_pick, g_pick0, g_pick1, g_pick2, g_pick3, e_sif, e_and1, g_and10, g_and11, e_or1, g_or10, g_or11, e_not1, g_not, g_chain40, g_chain30, g_chain31, g_chain20, e_chain1, g_chain10, e_val1, g_val, e_tru1, g_tru10, e_tand, g_tand0, g_tand1, e_tor, g_tor0, g_tor1, e_tnot, g_tnot, g_isi2, e_isi1, g_isi10, g_sl30, g_sl20, e_sl1, g_sl10, e_part1, g_part10, g_meA0, e_me0, g_me00, g_meB0, e_me1, g_me10, e_seq1, g_seq10, g_seq11, g_seq12, e_ret1, g_ret10, e_expr1, g_expr10, g_asg20, e_asg1, g_asg10, g_par20, e_par1, g_par10, e_gtup, g_gtup0, e_gs1, g_gs10, g_sub20, e_sub1, g_sub10, g_run10, g_run11, add_ii, ixt0, ixt1, ixt2, len_t0, len_t1, len_t2, len_t3, mkS, List.map_cons, List.map_nil, List.replicate, List.cons_append, List.nil_append, List.length_cons, List.length_nil, Nat.zero_add, Nat.reduceAdd, Nat.reduceBEq, Nat.beq, cond_true, cond_false, nth, setN, at?, oSub, oMul, oDiv, oMod, uNeg, oCmpI, oLt, oLe, oGt, oGe, subS, setAll, bInt, bDivmod, bAbs, bMax2, truM, isTys, isTy, Bool.or_false, Bool.false_or, Bool.true_or, Bool.or_true, Bool.and_true, Bool.true_and, Bool.and_false, Bool.false_and, Bool.not_true, Bool.not_false, eq_str, eq_int, ne_str, ne_int, nat_beq, Int.reduceEq, Int.reduceLT, Int.reduceLE, decide_true, decide_false, reduceCtorEq, g, e0, eu, ft, List.isEmpty, lk]
        | non => simp only [c_is_shaped, of_some, v_lit, v_var, v_nil, v_dct0, v_none, x_nil, x_cont, y_nm, y_nil, g_bin20, e_bin1, g_bin10, e_un1, g_un10, g_cons20, e_cons1, g_cons10, g_tup20, e_tup1, g_tup10, g_lst20, e_lst1, g_lst10, g_fun20, e_fun1, g_fun10, g_key20, e_key1, g_key10, e_ap1, g_ap10, e_pick, g_pick0, g_pick1, g_pick2, g_pick3, e_sif, e_and1, g_and10, g_and11, e_or1, g_or10, g_or11, e_not1, g_not, g_chain40, g_chain30, g_chain31, g_chain20, e_chain1, g_chain10, e_val1, g_val, e_tru1, g_tru10, e_tand, g_tand0, g_tand1, e_tor, g_tor0, g_tor1, e_tnot, g_tnot, g_isi2, e_isi1, g_isi10, g_sl30, g_sl20, e_sl1, g_sl10, e_part1, g_part10, g_meA0, e_me0, g_me00, g_meB0, e_me1, g_me10, e_seq1, g_seq10, g_seq11, g_seq12, e_ret1, g_ret10, e_expr1, g_expr10, g_asg20, e_asg1, g_asg10, g_par20, e_par1, g_par10, e_gtup, g_gtup0, e_gs1, g_gs10, g_sub20, e_sub1, g_sub10, g_run10, g_run11, add_ii, ixt0, ixt1, ixt2, len_t0, len_t1, len_t2, len_t3, mkS, List.map_cons, List.map_nil, List.replicate, List.cons_append, List.nil_append, List.length_cons, List.length_nil, Nat.zero_add, Nat.reduceAdd, Nat.reduceBEq, Nat.beq, cond_true, cond_false, nth, setN, at?, oSub, oMul, oDiv, oMod, uNeg, oCmpI, oLt, oLe, oGt, oGe, subS, setAll, bInt, bDivmod, bAbs, bMax2, truM, isTys, isTy, Bool.or_false, Bool.false_or, Bool.true_or, Bool.or_true, Bool.and_true, Bool.true_and, Bool.and_false, Bool.false_and, Bool.not_true, Bool.not_false, eq_str, eq_int, ne_str, ne_int, nat_beq, Int.reduceEq, Int.reduceLT, Int.reduceLE, decide_true, decide_false, reduceCtorEq, e0, eu, ft, List.isEmpty, lk]
        | bl b => simp only [c_is_shaped, of_some, v_lit, v_var, v_nil, v_dct0, v_none, x_nil, x_cont, y_nm, y_nil, g_bin20, e_bin1, g_bin10, e_un1, g_un10, g_cons20, e_cons1, g_cons10, g_tup20, e_tup1, g_tup10, g_lst20, e_lst1, g_lst10, g_fun20, e_fun1, g_fun10, g_key20, e_key1, g_key10, e_ap1, g_ap10, e_pick, g_pick0, g_pick1, g_pick2, g_pick3, e_sif, e_and1, g_and10, g_and11, e_or1, g_or10, g_or11, e_not1, g_not, g_chain40, g_chain30, g_chain31, g_chain20, e_chain1, g_chain10, e_val1, g_val, e_tru1, g_tru10, e_tand, g_tand0, g_tand1, e_tor, g_tor0, g_tor1, e_tnot, g_tnot, g_isi2, e_isi1, g_isi10, g_sl30, g_sl20, e_sl1, g_sl10, e_part1, g_part10, g_meA0, e_me0, g_me00, g_meB0, e_me1, g_me10, e_seq1, g_seq10, g_seq11, g_seq12, e_ret1, g_ret10, e_expr1, g_expr10, g_asg20, e_asg1, g_asg10, g_par20, e_par1, g_par10, e_gtup, g_gtup0, e_gs1, g_gs10, g_sub20, e_sub1, g_sub10, g_run10, g_run11, add_ii, ixt0, ixt1, ixt2, len_t0, len_t1, len_t2, len_t3, mkS, List.map_cons, List.map_nil, List.replicate, List.cons_append, List.nil_append, List.length_cons, List.length_nil, Nat.zero_add, Nat.reduceAdd, Nat.reduceBEq, Nat.beq, cond_true, cond_false, nth, setN, at?, oSub, oMul, oDiv, oMod, uNeg, oCmpI, oLt, oLe, oGt, oGe, subS, setAll, bInt, bDivmod, bAbs, bMax2, truM, isTys, isTy, Bool.or_false, Bool.false_or, Bool.true_or, Bool.or_true, Bool.and_true, Bool.true_and, Bool.and_false, Bool.false_and, Bool.not_true, Bool.not_false, eq_str, eq_int, ne_str, ne_int, nat_beq, Int.reduceEq, Int.reduceLT, Int.reduceLE, decide_true, decide_false, reduceCtorEq, e0, eu, ft, List.isEmpty, lk]
        | int i => simp only [c_is_shaped, of_some, v_lit, v_var, v_nil, v_dct0, v_none, x_nil, x_cont, y_nm, y_nil, g_bin20, e_bin1, g_bin10, e_un1, g_un10, g_cons20, e_cons1, g_cons10, g_tup20, e_tup1, g_tup10, g_lst20, e_lst1, g_lst10, g_fun20, e_fun1, g_fun10, g_key20, e_key1, g_key10, e_ap1, g_ap10, e_pick, g_pick0, g_pick1, g_pick2, g_pick3, e_sif, e_and1, g_and10, g_and11, e_or1, g_or10, g_or11, e_not1, g_not, g_chain40, g_chain30, g_chain31, g_chain20, e_chain1, g_chain10, e_val1, g_val, e_tru1, g_tru10, e_tand, g_tand0, g_tand1, e_tor, g_tor0, g_tor1, e_tnot, g_tnot, g_isi2, e_isi1, g_isi10, g_sl30, g_sl20, e_sl1, g_sl10, e_part1, g_part10, g_meA0, e_me0, g_me00, g_meB0, e_me1, g_me10, e_seq1, g_seq10, g_seq11, g_seq12, e_ret1, g_ret10, e_expr1, g_expr10, g_asg20, e_asg1, g_asg10, g_par20, e_par1, g_par10, e_gtup, g_gtup0, e_gs1, g_gs10, g_sub20, e_sub1, g_sub10, g_run10, g_run11, add_ii, ixt0, ixt1, ixt2, len_t0, len_t1, len_t2, len_t3, mkS, List.map_cons, List.map_nil, List.replicate, List.cons_append, List.nil_append, List.length_cons, List.length_nil, Nat.zero_add, Nat.reduceAdd, Nat.reduceBEq, Nat.beq, cond_true, cond_false, nth, setN, at?, oSub, oMul, oDiv, oMod, uNeg, oCmpI, oLt, oLe, oGt, oGe, subS, setAll, bInt, bDivmod, bAbs, bMax2, truM, isTys, isTy, Bool.or_false, Bool.false_or, Bool.true_or, Bool.or_true, Bool.and_true, Bool.true_and, Bool.and_false, Bool.false_and, Bool.not_true, Bool.not_false, eq_str, eq_int, ne_str, ne_int, nat_beq, Int.reduceEq, Int.reduceLT, Int.reduceLE, decide_true, decide_false, reduceCtorEq, e0, eu, ft, List.isEmpty, lk]
        | tup l => simp only [c_is_shaped, of_some, v_lit, v_var, v_nil, v_dct0, v_none, x_nil, x_cont, y_nm, y_nil, g_bin20, e_bin1, g_bin10, e_un1, g_un10, g_cons20, e_cons1, g_cons10, g_tup20, e_tup1, g_tup10, g_lst20, e_lst1, g_lst10, g_fun20, e_fun1, g_fun10, g_key20, e_key1, g_key10, e_ap1, g_ap10, e_pick, g_pick0, g_pick1, g_pick2, g_pick3, e_sif, e_and1, g_and10, g_and11, e_or1, g_or10, g_or11, e_not1, g_not, g_chain40, g_chain30, g_chain31, g_chain20, e_chain1, g_chain10, e_val1, g_val, e_tru1, g_tru10, e_tand, g_tand0, g_tand1, e_tor, g_tor0, g_tor1, e_tnot, g_tnot, g_isi2, e_isi1, g_isi10, g_sl30, g_sl20, e_sl1, g_sl10, e_part1, g_part10, g_meA0, e_me0, g_me00, g_meB0, e_me1, g_me10, e_seq1, g_seq10, g_seq11, g_seq12, e_ret1, g_ret10, e_expr1, g_expr10, g_asg20, e_asg1, g_asg10, g_par20, e_par1, g_par10, e_gtup, g_gtup0, e_gs1, g_gs10, g_sub20, e_sub1, g_sub10, g_run10, g_run11, add_ii, ixt0, ixt1, ixt2, len_t0, len_t1, len_t2, len_t3, mkS, List.map_cons, List.map_nil, List.replicate, List.cons_append, List.nil_append, List.length_cons, List.length_nil, Nat.zero_add, Nat.reduceAdd, Nat.reduceBEq, Nat.beq, cond_true, cond_false, nth, setN, at?, oSub, oMul, oDiv, oMod, uNeg, oCmpI, oLt, oLe, oGt, oGe, subS, setAll, bInt, bDivmod, bAbs, bMax2, truM, isTys, isTy, Bool.or_false, Bool.false_or, Bool.true_or, Bool.or_true, Bool.and_true, Bool.true_and, Bool.and_false, Bool.false_and, Bool.not_true, Bool.not_false, eq_str, eq_int, ne_str, ne_int, nat_beq, Int.reduceEq, Int.reduceLT, Int.reduceLE, decide_true, decide_false, reduceCtorEq, e0, eu, ft, List.isEmpty, lk]
        | str s =>
          cases q1 : strEq s "letter" with
          | true =>
            cases r with
            | nil => simp only [c_is_shaped, of_some, v_lit, v_var, v_nil, v_dct0, v_none, x_nil, x_cont, y_nm, y_nil, g_bin20, e_bin1, g_bin10, e_un1, g_un10, g_cons20, e_cons1, g_cons10, g_tup20, e_tup1, g_tup10, g_lst20, e_lst1, g_lst10, g_fun20, e_fun1, g_fun10, g_key20, e_key1, g_key10, e_ap1, g_ap10, e_pick, g_pick0, g_pick1, g_pick2, g_pick3, e_sif, e_and1, g_and10, g_and11, e_or1, g_or10, g_or11, e_not1, g_not, g_chain40, g_chain30, g_chain31, g_chain20, e_chain1, g_chain10, e_val1, g_val, e_tru1, g_tru10, e_tand, g_tand0, g_tand1, e_tor, g_tor0, g_tor1, e_tnot, g_tnot, g_isi2, e_isi1, g_isi10, g_sl30, g_sl20, e_sl1, g_sl10, e_part1, g_part10, g_meA0, e_me0, g_me00, g_meB0, e_me1, g_me10, e_seq1, g_seq10, g_seq11, g_seq12, e_ret1, g_ret10, e_expr1, g_expr10, g_asg20, e_asg1, g_asg10, g_par20, e_par1, g_par10, e_gtup, g_gtup0, e_gs1, g_gs10, g_sub20, e_sub1, g_sub10, g_run10, g_run11, add_ii, ixt0, ixt1, ixt2, len_t0, len_t1, len_t2, len_t3, mkS, List.map_cons, List.map_nil, List.replicate, List.cons_append, List.nil_append, List.length_cons, List.length_nil, Nat.zero_add, Nat.reduceAdd, Nat.reduceBEq, Nat.beq, cond_true, cond_false, nth, setN, at?, oSub, oMul, oDiv, oMod, uNeg, oCmpI, oLt, oLe, oGt, oGe, subS, setAll, bInt, bDivmod, bAbs, bMax2, truM, isTys, isTy, Bool.or_false, Bool.false_or, Bool.true_or, Bool.or_true, Bool.and_true, Bool.true_and, Bool.and_false, Bool.false_and, Bool.not_true, Bool.not_false, eq_str, eq_int, ne_str, ne_int, nat_beq, Int.reduceEq, Int.reduceLT, Int.reduceLE, decide_true, decide_false, reduceCtorEq, e0, eu, ft, List.isEmpty, q1, lk]
            | cons y t => cases t with
              | nil =>
                have z := cnt_ok nr.uncons.1 (k - 1)
                rw [show k - 1 + 2 = k + 1 by omega] at z
                cases y with
                | int i =>
                  cases q2 : decide (0 ≤ i) with
                  | true => simp only [c_is_shaped, of_some, v_lit, v_var, v_nil, v_dct0, v_none, x_nil, x_cont, y_nm, y_nil, g_bin20, e_bin1, g_bin10, e_un1, g_un10, g_cons20, e_cons1, g_cons10, g_tup20, e_tup1, g_tup10, g_lst20, e_lst1, g_lst10, g_fun20, e_fun1, g_fun10, g_key20, e_key1, g_key10, e_ap1, g_ap10, e_pick, g_pick0, g_pick1, g_pick2, g_pick3, e_sif, e_and1, g_and10, g_and11, e_or1, g_or10, g_or11, e_not1, g_not, g_chain40, g_chain30, g_chain31, g_chain20, e_chain1, g_chain10, e_val1, g_val, e_tru1, g_tru10, e_tand, g_tand0, g_tand1, e_tor, g_tor0, g_tor1, e_tnot, g_tnot, g_isi2, e_isi1, g_isi10, g_sl30, g_sl20, e_sl1, g_sl10, e_part1, g_part10, g_meA0, e_me0, g_me00, g_meB0, e_me1, g_me10, e_seq1, g_seq10, g_seq11, g_seq12, e_ret1, g_ret10, e_expr1, g_expr10, g_asg20, e_asg1, g_asg10, g_par20, e_par1, g_par10, e_gtup, g_gtup0, e_gs1, g_gs10, g_sub20, e_sub1, g_sub10, g_run10, g_run11, add_ii, ixt0, ixt1, ixt2, len_t0, len_t1, len_t2, len_t3, mkS, List.map_cons, List.map_nil, List.replicate, List.cons_append, List.nil_append, List.length_cons, List.length_nil, Nat.zero_add, Nat.reduceAdd, Nat.reduceBEq, Nat.beq, cond_true, cond_false, nth, setN, at?, oSub, oMul, oDiv, oMod, uNeg, oCmpI, oLt, oLe, oGt, oGe, subS, setAll, bInt, bDivmod, bAbs, bMax2, truM, isTys, isTy, Bool.or_false, Bool.false_or, Bool.true_or, Bool.or_true, Bool.and_true, Bool.true_and, Bool.and_false, Bool.false_and, Bool.not_true, Bool.not_false, eq_str, eq_int, ne_str, ne_int, nat_beq, Int.reduceEq, Int.reduceLT, Int.reduceLE, decide_true, decide_false, reduceCtorEq, e0, eu, ft, List.isEmpty, q1, lk, z, cnt, q2]
                  | false => simp only [c_is_shaped, of_some, v_lit, v_var, v_nil, v_dct0, v_none, x_nil, x_cont, y_nm, y_nil, g_bin20, e_bin1, g_bin10, e_un1, g_un10, g_cons20, e_cons1, g_cons10, g_tup20, e_tup1, g_tup10, g_lst20, e_lst1, g_lst10, g_fun20, e_fun1, g_fun10, g_key20, e_key1, g_key10, e_ap1, g_ap10, e_pick, g_pick0, g_pick1, g_pick2, g_pick3, e_sif, e_and1, g_and10, g_and11, e_or1, g_or10, g_or11, e_not1, g_not, g_chain40, g_chain30, g_chain31, g_chain20, e_chain1, g_chain10, e_val1, g_val, e_tru1, g_tru10, e_tand, g_tand0, g_tand1, e_tor, g_tor0, g_tor1, e_tnot, g_tnot, g_isi2, e_isi1, g_isi10, g_sl30, g_sl20, e_sl1, g_sl10, e_part1, g_part10, g_meA0, e_me0, g_me00, g_meB0, e_me1, g_me10, e_seq1, g_seq10, g_seq11, g_seq12, e_ret1, g_ret10, e_expr1, g_expr10, g_asg20, e_asg1, g_asg10, g_par20, e_par1, g_par10, e_gtup, g_gtup0, e_gs1, g_gs10, g_sub20, e_sub1, g_sub10, g_run10, g_run11, add_ii, ixt0, ixt1, ixt2, len_t0, len_t1, len_t2, len_t3, mkS, List.map_cons, List.map_nil, List.replicate, List.cons_append, List.nil_append, List.length_cons, List.length_nil, Nat.zero_add, Nat.reduceAdd, Nat.reduceBEq, Nat.beq, cond_true, cond_false, nth, setN, at?, oSub, oMul, oDiv, oMod, uNeg, oCmpI, oLt, oLe, oGt, oGe, subS, setAll, bInt, bDivmod, bAbs, bMax2, truM, isTys, isTy, Bool.or_false, Bool.false_or, Bool.true_or, Bool.or_true, Bool.and_true, Bool.true_and, Bool.and_false, Bool.false_and, Bool.not_true, Bool.not_false, eq_str, eq_int, ne_str, ne_int, nat_beq, Int.reduceEq, Int.reduceLT, Int.reduceLE, decide_true, decide_false, reduceCtorEq, e0, eu, ft, List.isEmpty, q1, lk, z, cnt, q2]
                | _ => simp only [c_is_shaped, of_some, v_lit, v_var, v_nil, v_dct0, v_none, x_nil, x_cont, y_nm, y_nil, g_bin20, e_bin1, g_bin10, e_un1, g_un10, g_cons20, e_cons1, g_cons10, g_tup20, e_tup1, g_tup10, g_lst20, e_lst1, g_lst10, g_fun20, e_fun1, g_fun10, g_key20, e_key1, g_key10, e_ap1, g_ap10, e_pick, g_pick0, g_pick1, g_pick2, g_pick3, e_sif, e_and1, g_and10, g_and11, e_or1, g_or10, g_or11, e_not1, g_not, g_chain40, g_chain30, g_chain31, g_chain20, e_chain1, g_chain10, e_val1, g_val, e_tru1, g_tru10, e_tand, g_tand0, g_tand1, e_tor, g_tor0, g_tor1, e_tnot, g_tnot, g_isi2, e_isi1, g_isi10, g_sl30, g_sl20, e_sl1, g_sl10, e_part1, g_part10, g_meA0, e_me0, g_me00, g_meB0, e_me1, g_me10, e_seq1, g_seq10, g_seq11, g_seq12, e_ret1, g_ret10, e_expr1, g_expr10, g_asg20, e_asg1, g_asg10, g_par20, e_par1, g_par10, e_gtup, g_gtup0, e_gs1, g_gs10, g_sub20, e_sub1, g_sub10, g_run10, g_run11, add_ii, ixt0, ixt1, ixt2, len_t0, len_t1, len_t2, len_t3, mkS, List.map_cons, List.map_nil, List.replicate, List.cons_append, List.nil_append, List.length_cons, List.length_nil, Nat.zero_add, Nat.reduceAdd, Nat.reduceBEq, Nat.beq, cond_true, cond_false, nth, setN, at?, oSub, oMul, oDiv, oMod, uNeg, oCmpI, oLt, oLe, oGt, oGe, subS, setAll, bInt, bDivmod, bAbs, bMax2, truM, isTys, isTy, Bool.or_false, Bool.false_or, Bool.true_or, Bool.or_true, Bool.and_true, Bool.true_and, Bool.and_false, Bool.false_and, Bool.not_true, Bool.not_false, eq_str, eq_int, ne_str, ne_int, nat_beq, Int.reduceEq, Int.reduceLT, Int.reduceLE, decide_true, decide_false, reduceCtorEq, e0, eu, ft, List.isEmpty, q1, lk, z, cnt]
              | cons y2 t => cases t with
                | nil => simp only [c_is_shaped, of_some, v_lit, v_var, v_nil, v_dct0, v_none, x_nil, x_cont, y_nm, y_nil, g_bin20, e_bin1, g_bin10, e_un1, g_un10, g_cons20, e_cons1, g_cons10, g_tup20, e_tup1, g_tup10, g_lst20, e_lst1, g_lst10, g_fun20, e_fun1, g_fun10, g_key20, e_key1, g_key10, e_ap1, g_ap10, e_pick, g_pick0, g_pick1, g_pick2, g_pick3, e_sif, e_and1, g_and10, g_and11, e_or1, g_or10, g_or11, e_not1, g_not, g_chain40, g_chain30, g_chain31, g_chain20, e_chain1, g_chain10, e_val1, g_val, e_tru1, g_tru10, e_tand, g_tand0, g_tand1, e_tor, g_tor0, g_tor1, e_tnot, g_tnot, g_isi2, e_isi1, g_isi10, g_sl30, g_sl20, e_sl1, g_sl10, e_part1, g_part10, g_meA0, e_me0, g_me00, g_meB0, e_me1, g_me10, e_seq1, g_seq10, g_seq11, g_seq12, e_ret1, g_ret10, e_expr1, g_expr10, g_asg20, e_asg1, g_asg10, g_par20, e_par1, g_par10, e_gtup, g_gtup0, e_gs1, g_gs10, g_sub20, e_sub1, g_sub10, g_run10, g_run11, add_ii, ixt0, ixt1, ixt2, len_t0, len_t1, len_t2, len_t3, mkS, List.map_cons, List.map_nil, List.replicate, List.cons_append, List.nil_append, List.length_cons, List.length_nil, Nat.zero_add, Nat.reduceAdd, Nat.reduceBEq, Nat.beq, cond_true, cond_false, nth, setN, at?, oSub, oMul, oDiv, oMod, uNeg, oCmpI, oLt, oLe, oGt, oGe, subS, setAll, bInt, bDivmod, bAbs, bMax2, truM, isTys, isTy, Bool.or_false, Bool.false_or, Bool.true_or, Bool.or_true, Bool.and_true, Bool.true_and, Bool.and_false, Bool.false_and, Bool.not_true, Bool.not_false, eq_str, eq_int, ne_str, ne_int, nat_beq, Int.reduceEq, Int.reduceLT, Int.reduceLE, decide_true, decide_false, reduceCtorEq, e0, eu, ft, List.isEmpty, q1, lk]
                | cons y3 t =>
                  have l2 := len_t4 (x := .str s) (y := y) (z := y2) (v := y3) (l := t) (k := 2) (by decide)
                  simp only [c_is_shaped, of_some, v_lit, v_var, v_nil, v_dct0, v_none, x_nil, x_cont, y_nm, y_nil, g_bin20, e_bin1, g_bin10, e_un1, g_un10, g_cons20, e_cons1, g_cons10, g_tup20, e_tup1, g_tup10, g_lst20, e_lst1, g_lst10, g_fun20, e_fun1, g_fun10, g_key20, e_key1, g_key10, e_ap1, g_ap10, e_pick, g_pick0, g_pick1, g_pick2, g_pick3, e_sif, e_and1, g_and10, g_and11, e_or1, g_or10, g_or11, e_not1, g_not, g_chain40, g_chain30, g_chain31, g_chain20, e_chain1, g_chain10, e_val1, g_val, e_tru1, g_tru10, e_tand, g_tand0, g_tand1, e_tor, g_tor0, g_tor1, e_tnot, g_tnot, g_isi2, e_isi1, g_isi10, g_sl30, g_sl20, e_sl1, g_sl10, e_part1, g_part10, g_meA0, e_me0, g_me00, g_meB0, e_me1, g_me10, e_seq1, g_seq10, g_seq11, g_seq12, e_ret1, g_ret10, e_expr1, g_expr10, g_asg20, e_asg1, g_asg10, g_par20, e_par1, g_par10, e_gtup, g_gtup0, e_gs1, g_gs10, g_sub20, e_sub1, g_sub10, g_run10, g_run11, add_ii, ixt0, ixt1, ixt2, len_t0, len_t1, len_t2, len_t3, mkS, List.map_cons, List.map_nil, List.replicate, List.cons_append, List.nil_append, List.length_cons, List.length_nil, Nat.zero_add, Nat.reduceAdd, Nat.reduceBEq, Nat.beq, cond_true, cond_false, nth, setN, at?, oSub, oMul, oDiv, oMod, uNeg, oCmpI, oLt, oLe, oGt, oGe, subS, setAll, bInt, bDivmod, bAbs, bMax2, truM, isTys, isTy, Bool.or_false, Bool.false_or, Bool.true_or, Bool.or_true, Bool.and_true, Bool.true_and, Bool.and_false, Bool.false_and, Bool.not_true, Bool.not_false, eq_str, eq_int, ne_str, ne_int, nat_beq, Int.reduceEq, Int.reduceLT, Int.reduceLE, decide_true, decide_false, reduceCtorEq, e0, eu, ft, List.isEmpty, q1, lk, len_t]
                  simp only [List.length_cons] at l2
                  simp only [of_some, v_lit, v_var, v_nil, v_dct0, v_none, x_nil, x_cont, y_nm, y_nil, g_bin20, e_bin1, g_bin10, e_un1, g_un10, g_cons20, e_cons1, g_cons10, g_tup20, e_tup1, g_tup10, g_lst20, e_lst1, g_lst10, g_fun20, e_fun1, g_fun10, g_key20, e_key1, g_key10, e_ap1, g_ap10, e_pick, g_pick0, g_pick1, g_pick2, g_pick3, e_sif, e_and1, g_and10, g_and11, e_or1, g_or10, g_or11, e_not1, g_not, g_chain40, g_chain30, g_chain31, g_chain20, e_chain1, g_chain10, e_val1, g_val, e_tru1, g_tru10, e_tand, g_tand0, g_tand1, e_tor, g_tor0, g_tor1, e_tnot, g_tnot, g_isi2, e_isi1, g_isi10, g_sl30, g_sl20, e_sl1, g_sl10, e_part1, g_part10, g_meA0, e_me0, g_me00, g_meB0, e_me1, g_me10, e_seq1, g_seq10, g_seq11, g_seq12, e_ret1, g_ret10, e_expr1, g_expr10, g_asg20, e_asg1, g_asg10, g_par20, e_par1, g_par10, e_gtup, g_gtup0, e_gs1, g_gs10, g_sub20, e_sub1, g_sub10, g_run10, g_run11, add_ii, ixt0, ixt1, ixt2, len_t0, len_t1, len_t2, len_t3, mkS, List.map_cons, List.map_nil, List.replicate, List.cons_append, List.nil_append, List.length_cons, List.length_nil, Nat.zero_add, Nat.reduceAdd, Nat.reduceBEq, Nat.beq, cond_true, cond_false, nth, setN, at?, oSub, oMul, oDiv, oMod, uNeg, oCmpI, oLt, oLe, oGt, oGe, subS, setAll, bInt, bDivmod, bAbs, bMax2, truM, isTys, isTy, Bool.or_false, Bool.false_or, Bool.true_or, Bool.or_true, Bool.and_true, Bool.true_and, Bool.and_false, Bool.false_and, Bool.not_true, Bool.not_false, eq_str, eq_int, ne_str, ne_int, nat_beq, Int.reduceEq, Int.reduceLT, Int.reduceLE, decide_true, decide_false, reduceCtorEq, l2]
          | false =>
            cases q2 : strEq s "one" with
            | true =>
              cases r with
              | nil => simp only [c_is_shaped, of_some, v_lit, v_var, v_nil, v_dct0, v_none, x_nil, x_cont, y_nm, y_nil, g_bin20, e_bin1, g_bin10, e_un1, g_un10, g_cons20, e_cons1, g_cons10, g_tup20, e_tup1, g_tup10, g_lst20, e_lst1, g_lst10, g_fun20, e_fun1, g_fun10, g_key20, e_key1, g_key10, e_ap1, g_ap10, e_pick, g_pick0, g_pick1, g_pick2, g_pick3, e_sif, e_and1, g_and10, g_and11, e_or1, g_or10, g_or11, e_not1, g_not, g_chain40, g_chain30, g_chain31, g_chain20, e_chain1, g_chain10, e_val1, g_val, e_tru1, g_tru10, e_tand, g_tand0, g_tand1, e_tor, g_tor0, g_tor1, e_tnot, g_tnot, g_isi2, e_isi1, g_isi10, g_sl30, g_sl20, e_sl1, g_sl10, e_part1, g_part10, g_meA0, e_me0, g_me00, g_meB0, e_me1, g_me10, e_seq1, g_seq10, g_seq11, g_seq12, e_ret1, g_ret10, e_expr1, g_expr10, g_asg20, e_asg1, g_asg10, g_par20, e_par1, g_par10, e_gtup, g_gtup0, e_gs1, g_gs10, g_sub20, e_sub1, g_sub10, g_run10, g_run11, add_ii, ixt0, ixt1, ixt2, len_t0, len_t1, len_t2, len_t3, mkS, List.map_cons, List.map_nil, List.replicate, List.cons_append, List.nil_append, List.length_cons, List.length_nil, Nat.zero_add, Nat.reduceAdd, Nat.reduceBEq, Nat.beq, cond_true, cond_false, nth, setN, at?, oSub, oMul, oDiv, oMod, uNeg, oCmpI, oLt, oLe, oGt, oGe, subS, setAll, bInt, bDivmod, bAbs, bMax2, truM, isTys, isTy, Bool.or_false, Bool.false_or, Bool.true_or, Bool.or_true, Bool.and_true, Bool.true_and, Bool.and_false, Bool.false_and, Bool.not_true, Bool.not_false, eq_str, eq_int, ne_str, ne_int, nat_beq, Int.reduceEq, Int.reduceLT, Int.reduceLE, decide_true, decide_false, reduceCtorEq, e0, eu, ft, List.isEmpty, q1, q2, lk]
              | cons y t => cases t with
                | nil => simp only [c_is_shaped, of_some, v_lit, v_var, v_nil, v_dct0, v_none, x_nil, x_cont, y_nm, y_nil, g_bin20, e_bin1, g_bin10, e_un1, g_un10, g_cons20, e_cons1, g_cons10, g_tup20, e_tup1, g_tup10, g_lst20, e_lst1, g_lst10, g_fun20, e_fun1, g_fun10, g_key20, e_key1, g_key10, e_ap1, g_ap10, e_pick, g_pick0, g_pick1, g_pick2, g_pick3, e_sif, e_and1, g_and10, g_and11, e_or1, g_or10, g_or11, e_not1, g_not, g_chain40, g_chain30, g_chain31, g_chain20, e_chain1, g_chain10, e_val1, g_val, e_tru1, g_tru10, e_tand, g_tand0, g_tand1, e_tor, g_tor0, g_tor1, e_tnot, g_tnot, g_isi2, e_isi1, g_isi10, g_sl30, g_sl20, e_sl1, g_sl10, e_part1, g_part10, g_meA0, e_me0, g_me00, g_meB0, e_me1, g_me10, e_seq1, g_seq10, g_seq11, g_seq12, e_ret1, g_ret10, e_expr1, g_expr10, g_asg20, e_asg1, g_asg10, g_par20, e_par1, g_par10, e_gtup, g_gtup0, e_gs1, g_gs10, g_sub20, e_sub1, g_sub10, g_run10, g_run11, add_ii, ixt0, ixt1, ixt2, len_t0, len_t1, len_t2, len_t3, mkS, List.map_cons, List.map_nil, List.replicate, List.cons_append, List.nil_append, List.length_cons, List.length_nil, Nat.zero_add, Nat.reduceAdd, Nat.reduceBEq, Nat.beq, cond_true, cond_false, nth, setN, at?, oSub, oMul, oDiv, oMod, uNeg, oCmpI, oLt, oLe, oGt, oGe, subS, setAll, bInt, bDivmod, bAbs, bMax2, truM, isTys, isTy, Bool.or_false, Bool.false_or, Bool.true_or, Bool.or_true, Bool.and_true, Bool.true_and, Bool.and_false, Bool.false_and, Bool.not_true, Bool.not_false, eq_str, eq_int, ne_str, ne_int, nat_beq, Int.reduceEq, Int.reduceLT, Int.reduceLE, decide_true, decide_false, reduceCtorEq, e0, eu, ft, List.isEmpty, q1, q2, lk]
                | cons y2 t => cases t with
                  | nil => simp only [c_is_shaped, of_some, v_lit, v_var, v_nil, v_dct0, v_none, x_nil, x_cont, y_nm, y_nil, g_bin20, e_bin1, g_bin10, e_un1, g_un10, g_cons20, e_cons1, g_cons10, g_tup20, e_tup1, g_tup10, g_lst20, e_lst1, g_lst10, g_fun20, e_fun1, g_fun10, g_key20, e_key1, g_key10, e_ap1, g_ap10, e_pick, g_pick0, g_pick1, g_pick2, g_pick3, e_sif, e_and1, g_and10, g_and11, e_or1, g_or10, g_or11, e_not1, g_not, g_chain40, g_chain30, g_chain31, g_chain20, e_chain1, g_chain10, e_val1, g_val, e_tru1, g_tru10, e_tand, g_tand0, g_tand1, e_tor, g_tor0, g_tor1, e_tnot, g_tnot, g_isi2, e_isi1, g_isi10, g_sl30, g_sl20, e_sl1, g_sl10, e_part1, g_part10, g_meA0, e_me0, g_me00, g_meB0, e_me1, g_me10, e_seq1, g_seq10, g_seq11, g_seq12, e_ret1, g_ret10, e_expr1, g_expr10, g_asg20, e_asg1, g_asg10, g_par20, e_par1, g_par10, e_gtup, g_gtup0, e_gs1, g_gs10, g_sub20, e_sub1, g_sub10, g_run10, g_run11, add_ii, ixt0, ixt1, ixt2, len_t0, len_t1, len_t2, len_t3, mkS, List.map_cons, List.map_nil, List.replicate, List.cons_append, List.nil_append, List.length_cons, List.length_nil, Nat.zero_add, Nat.reduceAdd, Nat.reduceBEq, Nat.beq, cond_true, cond_false, nth, setN, at?, oSub, oMul, oDiv, oMod, uNeg, oCmpI, oLt, oLe, oGt, oGe, subS, setAll, bInt, bDivmod, bAbs, bMax2, truM, isTys, isTy, Bool.or_false, Bool.false_or, Bool.true_or, Bool.or_true, Bool.and_true, Bool.true_and, Bool.and_false, Bool.false_and, Bool.not_true, Bool.not_false, eq_str, eq_int, ne_str, ne_int, nat_beq, Int.reduceEq, Int.reduceLT, Int.reduceLE, decide_true, decide_false, reduceCtorEq, e0, eu, ft, List.isEmpty, q1, q2, lk]
                  | cons y3 t =>
                    have l2 := len_t4 (x := .str s) (y := y) (z := y2) (v := y3) (l := t) (k := 1) (by decide)
                    simp only [c_is_shaped, of_some, v_lit, v_var, v_nil, v_dct0, v_none, x_nil, x_cont, y_nm, y_nil, g_bin20, e_bin1, g_bin10, e_un1, g_un10, g_cons20, e_cons1, g_cons10, g_tup20, e_tup1, g_tup10, g_lst20, e_lst1, g_lst10, g_fun20, e_fun1, g_fun10, g_key20, e_key1, g_key10, e_ap1, g_ap10, e_pick, g_pick0, g_pick1, g_pick2, g_pick3, e_sif, e_and1, g_and10, g_and11, e_or1, g_or10, g_or11, e_not1, g_not, g_chain40, g_chain30, g_chain31, g_chain20, e_chain1, g_chain10, e_val1, g_val, e_tru1, g_tru10, e_tand, g_tand0, g_tand1, e_tor, g_tor0, g_tor1, e_tnot, g_tnot, g_isi2, e_isi1, g_isi10, g_sl30, g_sl20, e_sl1, g_sl10, e_part1, g_part10, g_meA0, e_me0, g_me00, g_meB0, e_me1, g_me10, e_seq1, g_seq10, g_seq11, g_seq12, e_ret1, g_ret10, e_expr1, g_expr10, g_asg20, e_asg1, g_asg10, g_par20, e_par1, g_par10, e_gtup, g_gtup0, e_gs1, g_gs10, g_sub20, e_sub1, g_sub10, g_run10, g_run11, add_ii, ixt0, ixt1, ixt2, len_t0, len_t1, len_t2, len_t3, mkS, List.map_cons, List.map_nil, List.replicate, List.cons_append, List.nil_append, List.length_cons, List.length_nil, Nat.zero_add, Nat.reduceAdd, Nat.reduceBEq, Nat.beq, cond_true, cond_false, nth, setN, at?, oSub, oMul, oDiv, oMod, uNeg, oCmpI, oLt, oLe, oGt, oGe, subS, setAll, bInt, bDivmod, bAbs, bMax2, truM, isTys, isTy, Bool.or_false, Bool.false_or, Bool.true_or, Bool.or_true, Bool.and_true, Bool.true_and, Bool.and_false, Bool.false_and, Bool.not_true, Bool.not_false, eq_str, eq_int, ne_str, ne_int, nat_beq, Int.reduceEq, Int.reduceLT, Int.reduceLE, decide_true, decide_false, reduceCtorEq, e0, eu, ft, List.isEmpty, q1, q2, lk, len_t]
                    simp only [List.length_cons] at l2
                    simp only [of_some, v_lit, v_var, v_nil, v_dct0, v_none, x_nil, x_cont, y_nm, y_nil, g_bin20, e_bin1, g_bin10, e_un1, g_un10, g_cons20, e_cons1, g_cons10, g_tup20, e_tup1, g_tup10, g_lst20, e_lst1, g_lst10, g_fun20, e_fun1, g_fun10, g_key20, e_key1, g_key10, e_ap1, g_ap10, e_pick, g_pick0, g_pick1, g_pick2, g_pick3, e_sif, e_and1, g_and10, g_and11, e_or1, g_or10, g_or11, e_not1, g_not, g_chain40, g_chain30, g_chain31, g_chain20, e_chain1, g_chain10, e_val1, g_val, e_tru1, g_tru10, e_tand, g_tand0, g_tand1, e_tor, g_tor0, g_tor1, e_tnot, g_tnot, g_isi2, e_isi1, g_isi10, g_sl30, g_sl20, e_sl1, g_sl10, e_part1, g_part10, g_meA0, e_me0, g_me00, g_meB0, e_me1, g_me10, e_seq1, g_seq10, g_seq11, g_seq12, e_ret1, g_ret10, e_expr1, g_expr10, g_asg20, e_asg1, g_asg10, g_par20, e_par1, g_par10, e_gtup, g_gtup0, e_gs1, g_gs10, g_sub20, e_sub1, g_sub10, g_run10, g_run11, add_ii, ixt0, ixt1, ixt2, len_t0, len_t1, len_t2, len_t3, mkS, List.map_cons, List.map_nil, List.replicate, List.cons_append, List.nil_append, List.length_cons, List.length_nil, Nat.zero_add, Nat.reduceAdd, Nat.reduceBEq, Nat.beq, cond_true, cond_false, nth, setN, at?, oSub, oMul, oDiv, oMod, uNeg, oCmpI, oLt, oLe, oGt, oGe, subS, setAll, bInt, bDivmod, bAbs, bMax2, truM, isTys, isTy, Bool.or_false, Bool.false_or, Bool.true_or, Bool.or_true, Bool.and_true, Bool.true_and, Bool.and_false, Bool.false_and, Bool.not_true, Bool.not_false, eq_str, eq_int, ne_str, ne_int, nat_beq, Int.reduceEq, Int.reduceLT, Int.reduceLE, decide_true, decide_false, reduceCtorEq, l2]
            | false =>
              cases q3 : dbl s with
              | false => simp only [c_is_shaped, of_some, v_lit, v_var, v_nil, v_dct0, v_none, x_nil, x_cont, y_nm, y_nil, g_bin20, e_bin1, g_bin10, e_un1, g_un10, g_cons20, e_cons1, g_cons10, g_tup20, e_tup1, g_tup10, g_lst20, e_lst1, g_lst10, g_fun20, e_fun1, g_fun10, g_key20, e_key1, g_key10, e_ap1, g_ap10, e_pick, g_pick0, g_pick1, g_pick2, g_pick3, e_sif, e_and1, g_and10, g_and11, e_or1, g_or10, g_or11, e_not1, g_not, g_chain40, g_chain30, g_chain31, g_chain20, e_chain1, g_chain10, e_val1, g_val, e_tru1, g_tru10, e_tand, g_tand0, g_tand1, e_tor, g_tor0, g_tor1, e_tnot, g_tnot, g_isi2, e_isi1, g_isi10, g_sl30, g_sl20, e_sl1, g_sl10, e_part1, g_part10, g_meA0, e_me0, g_me00, g_meB0, e_me1, g_me10, e_seq1, g_seq10, g_seq11, g_seq12, e_ret1, g_ret10, e_expr1, g_expr10, g_asg20, e_asg1, g_asg10, g_par20, e_par1, g_par10, e_gtup, g_gtup0, e_gs1, g_gs10, g_sub20, e_sub1, g_sub10, g_run10, g_run11, add_ii, ixt0, ixt1, ixt2, len_t0, len_t1, len_t2, len_t3, mkS, List.map_cons, List.map_nil, List.replicate, List.cons_append, List.nil_append, List.length_cons, List.length_nil, Nat.zero_add, Nat.reduceAdd, Nat.reduceBEq, Nat.beq, cond_true, cond_false, nth, setN, at?, oSub, oMul, oDiv, oMod, uNeg, oCmpI, oLt, oLe, oGt, oGe, subS, setAll, bInt, bDivmod, bAbs, bMax2, truM, isTys, isTy, Bool.or_false, Bool.false_or, Bool.true_or, Bool.or_true, Bool.and_true, Bool.true_and, Bool.and_false, Bool.false_and, Bool.not_true, Bool.not_false, eq_str, eq_int, ne_str, ne_int, nat_beq, Int.reduceEq, Int.reduceLT, Int.reduceLE, decide_true, decide_false, reduceCtorEq, e0, eu, ft, List.isEmpty, q1, q2, lk, in_dbl, q3]
              | true => cases r with
                | nil => simp only [c_is_shaped, of_some, v_lit, v_var, v_nil, v_dct0, v_none, x_nil, x_cont, y_nm, y_nil, g_bin20, e_bin1, g_bin10, e_un1, g_un10, g_cons20, e_cons1, g_cons10, g_tup20, e_tup1, g_tup10, g_lst20, e_lst1, g_lst10, g_fun20, e_fun1, g_fun10, g_key20, e_key1, g_key10, e_ap1, g_ap10, e_pick, g_pick0, g_pick1, g_pick2, g_pick3, e_sif, e_and1, g_and10, g_and11, e_or1, g_or10, g_or11, e_not1, g_not, g_chain40, g_chain30, g_chain31, g_chain20, e_chain1, g_chain10, e_val1, g_val, e_tru1, g_tru10, e_tand, g_tand0, g_tand1, e_tor, g_tor0, g_tor1, e_tnot, g_tnot, g_isi2, e_isi1, g_isi10, g_sl30, g_sl20, e_sl1, g_sl10, e_part1, g_part10, g_meA0, e_me0, g_me00, g_meB0, e_me1, g_me10, e_seq1, g_seq10, g_seq11, g_seq12, e_ret1, g_ret10, e_expr1, g_expr10, g_asg20, e_asg1, g_asg10, g_par20, e_par1, g_par10, e_gtup, g_gtup0, e_gs1, g_gs10, g_sub20, e_sub1, g_sub10, g_run10, g_run11, add_ii, ixt0, ixt1, ixt2, len_t0, len_t1, len_t2, len_t3, mkS, List.map_cons, List.map_nil, List.replicate, List.cons_append, List.nil_append, List.length_cons, List.length_nil, Nat.zero_add, Nat.reduceAdd, Nat.reduceBEq, Nat.beq, cond_true, cond_false, nth, setN, at?, oSub, oMul, oDiv, oMod, uNeg, oCmpI, oLt, oLe, oGt, oGe, subS, setAll, bInt, bDivmod, bAbs, bMax2, truM, isTys, isTy, Bool.or_false, Bool.false_or, Bool.true_or, Bool.or_true, Bool.and_true, Bool.true_and, Bool.and_false, Bool.false_and, Bool.not_true, Bool.not_false, eq_str, eq_int, ne_str, ne_int, nat_beq, Int.reduceEq, Int.reduceLT, Int.reduceLE, decide_true, decide_false, reduceCtorEq, e0, eu, ft, List.isEmpty, q1, q2, lk, in_dbl, q3]
                | cons y t => cases t with
                  | nil => simp only [c_is_shaped, of_some, v_lit, v_var, v_nil, v_dct0, v_none, x_nil, x_cont, y_nm, y_nil, g_bin20, e_bin1, g_bin10, e_un1, g_un10, g_cons20, e_cons1, g_cons10, g_tup20, e_tup1, g_tup10, g_lst20, e_lst1, g_lst10, g_fun20, e_fun1, g_fun10, g_key20, e_key1, g_key10, e_ap1, g_ap10, e_pick, g_pick0, g_pick1, g_pick2, g_pick3, e_sif, e_and1, g_and10, g_and11, e_or1, g_or10, g_or11, e_not1, g_not, g_chain40, g_chain30, g_chain31, g_chain20, e_chain1, g_chain10, e_val1, g_val, e_tru1, g_tru10, e_tand, g_tand0, g_tand1, e_tor, g_tor0, g_tor1, e_tnot, g_tnot, g_isi2, e_isi1, g_isi10, g_sl30, g_sl20, e_sl1, g_sl10, e_part1, g_part10, g_meA0, e_me0, g_me00, g_meB0, e_me1, g_me10, e_seq1, g_seq10, g_seq11, g_seq12, e_ret1, g_ret10, e_expr1, g_expr10, g_asg20, e_asg1, g_asg10, g_par20, e_par1, g_par10, e_gtup, g_gtup0, e_gs1, g_gs10, g_sub20, e_sub1, g_sub10, g_run10, g_run11, add_ii, ixt0, ixt1, ixt2, len_t0, len_t1, len_t2, len_t3, mkS, List.map_cons, List.map_nil, List.replicate, List.cons_append, List.nil_append, List.length_cons, List.length_nil, Nat.zero_add, Nat.reduceAdd, Nat.reduceBEq, Nat.beq, cond_true, cond_false, nth, setN, at?, oSub, oMul, oDiv, oMod, uNeg, oCmpI, oLt, oLe, oGt, oGe, subS, setAll, bInt, bDivmod, bAbs, bMax2, truM, isTys, isTy, Bool.or_false, Bool.false_or, Bool.true_or, Bool.or_true, Bool.and_true, Bool.true_and, Bool.and_false, Bool.false_and, Bool.not_true, Bool.not_false, eq_str, eq_int, ne_str, ne_int, nat_beq, Int.reduceEq, Int.reduceLT, Int.reduceLE, decide_true, decide_false, reduceCtorEq, e0, eu, ft, List.isEmpty, q1, q2, lk, in_dbl, q3]
                  | cons y2 t => cases t with
                    | nil =>
                      have z1 := shaped_ok d nr.uncons.1 hw (show h0 ≤ 60 by omega) (k + 1) (by omega)
                      have z2 := shaped_ok d nr.uncons.2.uncons.1 hw (show h0 ≤ 60 by omega) (k + 1) (by omega)
                      cases q4 : lk d y with
                      | true => simp only [c_is_shaped, of_some, v_lit, v_var, v_nil, v_dct0, v_none, x_nil, x_cont, y_nm, y_nil, g_bin20, e_bin1, g_bin10, e_un1, g_un10, g_cons20, e_cons1, g_cons10, g_tup20, e_tup1, g_tup10, g_lst20, e_lst1, g_lst10, g_fun20, e_fun1, g_fun10, g_key20, e_key1, g_key10, e_ap1, g_ap10, e_pick, g_pick0, g_pick1, g_pick2, g_pick3, e_sif, e_and1, g_and10, g_and11, e_or1, g_or10, g_or11, e_not1, g_not, g_chain40, g_chain30, g_chain31, g_chain20, e_chain1, g_chain10, e_val1, g_val, e_tru1, g_tru10, e_tand, g_tand0, g_tand1, e_tor, g_tor0, g_tor1, e_tnot, g_tnot, g_isi2, e_isi1, g_isi10, g_sl30, g_sl20, e_sl1, g_sl10, e_part1, g_part10, g_meA0, e_me0, g_me00, g_meB0, e_me1, g_me10, e_seq1, g_seq10, g_seq11, g_seq12, e_ret1, g_ret10, e_expr1, g_expr10, g_asg20, e_asg1, g_asg10, g_par20, e_par1, g_par10, e_gtup, g_gtup0, e_gs1, g_gs10, g_sub20, e_sub1, g_sub10, g_run10, g_run11, add_ii, ixt0, ixt1, ixt2, len_t0, len_t1, len_t2, len_t3, mkS, List.map_cons, List.map_nil, List.replicate, List.cons_append, List.nil_append, List.length_cons, List.length_nil, Nat.zero_add, Nat.reduceAdd, Nat.reduceBEq, Nat.beq, cond_true, cond_false, nth, setN, at?, oSub, oMul, oDiv, oMod, uNeg, oCmpI, oLt, oLe, oGt, oGe, subS, setAll, bInt, bDivmod, bAbs, bMax2, truM, isTys, isTy, Bool.or_false, Bool.false_or, Bool.true_or, Bool.or_true, Bool.and_true, Bool.true_and, Bool.and_false, Bool.false_and, Bool.not_true, Bool.not_false, eq_str, eq_int, ne_str, ne_int, nat_beq, Int.reduceEq, Int.reduceLT, Int.reduceLE, decide_true, decide_false, reduceCtorEq, e0, e1, eu, ft, List.isEmpty, q1, q2, lk, in_dbl, q3, z1, z2, q4]
                      | false => simp only [c_is_shaped, of_some, v_lit, v_var, v_nil, v_dct0, v_none, x_nil, x_cont, y_nm, y_nil, g_bin20, e_bin1, g_bin10, e_un1, g_un10, g_cons20, e_cons1, g_cons10, g_tup20, e_tup1, g_tup10, g_lst20, e_lst1, g_lst10, g_fun20, e_fun1, g_fun10, g_key20, e_key1, g_key10, e_ap1, g_ap10, e_pick, g_pick0, g_pick1, g_pick2, g_pick3, e_sif, e_and1, g_and10, g_and11, e_or1, g_or10, g_or11, e_not1, g_not, g_chain40, g_chain30, g_chain31, g_chain20, e_chain1, g_chain10, e_val1, g_val, e_tru1, g_tru10, e_tand, g_tand0, g_tand1, e_tor, g_tor0, g_tor1, e_tnot, g_tnot, g_isi2, e_isi1, g_isi10, g_sl30, g_sl20, e_sl1, g_sl10, e_part1, g_part10, g_meA0, e_me0, g_me00, g_meB0, e_me1, g_me10, e_seq1, g_seq10, g_seq11, g_seq12, e_ret1, g_ret10, e_expr1, g_expr10, g_asg20, e_asg1, g_asg10, g_par20, e_par1, g_par10, e_gtup, g_gtup0, e_gs1, g_gs10, g_sub20, e_sub1, g_sub10, g_run10, g_run11, add_ii, ixt0, ixt1, ixt2, len_t0, len_t1, len_t2, len_t3, mkS, List.map_cons, List.map_nil, List.replicate, List.cons_append, List.nil_append, List.length_cons, List.length_nil, Nat.zero_add, Nat.reduceAdd, Nat.reduceBEq, Nat.beq, cond_true, cond_false, nth, setN, at?, oSub, oMul, oDiv, oMod, uNeg, oCmpI, oLt, oLe, oGt, oGe, subS, setAll, bInt, bDivmod, bAbs, bMax2, truM, isTys, isTy, Bool.or_false, Bool.false_or, Bool.true_or, Bool.or_true, Bool.and_true, Bool.true_and, Bool.and_false, Bool.false_and, Bool.not_true, Bool.not_false, eq_str, eq_int, ne_str, ne_int, nat_beq, Int.reduceEq, Int.reduceLT, Int.reduceLE, decide_true, decide_false, reduceCtorEq, e0, e1, eu, ft, List.isEmpty, q1, q2, lk, in_dbl, q3, z1, z2, q4]
                    | cons y3 t =>
                      have l2 := len_t4 (x := .str s) (y := y) (z := y2) (v := y3) (l := t) (k := 3) (by decide)
                      simp only [c_is_shaped, of_some, v_lit, v_var, v_nil, v_dct0, v_none, x_nil, x_cont, y_nm, y_nil, g_bin20, e_bin1, g_bin10, e_un1, g_un10, g_cons20, e_cons1, g_cons10, g_tup20, e_tup1, g_tup10, g_lst20, e_lst1, g_lst10, g_fun20, e_fun1, g_fun10, g_key20, e_key1, g_key10, e_ap1, g_ap10, e_pick, g_pick0, g_pick1, g_pick2, g_pick3, e_sif, e_and1, g_and10, g_and11, e_or1, g_or10, g_or11, e_not1, g_not, g_chain40, g_chain30, g_chain31, g_chain20, e_chain1, g_chain10, e_val1, g_val, e_tru1, g_tru10, e_tand, g_tand0, g_tand1, e_tor, g_tor0, g_tor1, e_tnot, g_tnot, g_isi2, e_isi1, g_isi10, g_sl30, g_sl20, e_sl1, g_sl10, e_part1, g_part10, g_meA0, e_me0, g_me00, g_meB0, e_me1, g_me10, e_seq1, g_seq10, g_seq11, g_seq12, e_ret1, g_ret10, e_expr1, g_expr10, g_asg20, e_asg1, g_asg10, g_par20, e_par1, g_par10, e_gtup, g_gtup0, e_gs1, g_gs10, g_sub20, e_sub1, g_sub10, g_run10, g_run11, add_ii, ixt0, ixt1, ixt2, len_t0, len_t1, len_t2, len_t3, mkS, List.map_cons, List.map_nil, List.replicate, List.cons_append, List.nil_append, List.length_cons, List.length_nil, Nat.zero_add, Nat.reduceAdd, Nat.reduceBEq, Nat.beq, cond_true, cond_false, nth, setN, at?, oSub, oMul, oDiv, oMod, uNeg, oCmpI, oLt, oLe, oGt, oGe, subS, setAll, bInt, bDivmod, bAbs, bMax2, truM, isTys, isTy, Bool.or_false, Bool.false_or, Bool.true_or, Bool.or_true, Bool.and_true, Bool.true_and, Bool.and_false, Bool.false_and, Bool.not_true, Bool.not_false, eq_str, eq_int, ne_str, ne_int, nat_beq, Int.reduceEq, Int.reduceLT, Int.reduceLE, decide_true, decide_false, reduceCtorEq, e0, eu, ft, List.isEmpty, q1, q2, lk, in_dbl, q3, len_t]
                      simp only [List.length_cons] at l2
                      simp only [of_some, v_lit, v_var, v_nil, v_dct0, v_none, x_nil, x_cont, y_nm, y_nil, g_bin20, e_bin1, g_bin10, e_un1, g_un10, g_cons20, e_cons1, g_cons10, g_tup20, e_tup1, g_tup10, g_lst20, e_lst1, g_lst10, g_fun20, e_fun1, g_fun10, g_key20, e_key1, g_key10, e_ap1, g_ap10, e_pick, g_pick0, g_pick1, g_pick2, g_pick3, e_sif, e_and1, g_and10, g_and11, e_or1, g_or10, g_or11, e_not1, g_not, g_chain40, g_chain30, g_chain31, g_chain20, e_chain1, g_chain10, e_val1, g_val, e_tru1, g_tru10, e_tand, g_tand0, g_tand1, e_tor, g_tor0, g_tor1, e_tnot, g_tnot, g_isi2, e_isi1, g_isi10, g_sl30, g_sl20, e_sl1, g_sl10, e_part1, g_part10, g_meA0, e_me0, g_me00, g_meB0, e_me1, g_me10, e_seq1, g_seq10, g_seq11, g_seq12, e_ret1, g_ret10, e_expr1, g_expr10, g_asg20, e_asg1, g_asg10, g_par20, e_par1, g_par10, e_gtup, g_gtup0, e_gs1, g_gs10, g_sub20, e_sub1, g_sub10, g_run10, g_run11, add_ii, ixt0, ixt1, ixt2, len_t0, len_t1, len_t2, len_t3, mkS, List.map_cons, List.map_nil, List.replicate, List.cons_append, List.nil_append, List.length_cons, List.length_nil, Nat.zero_add, Nat.reduceAdd, Nat.reduceBEq, Nat.beq, cond_true, cond_false, nth, setN, at?, oSub, oMul, oDiv, oMod, uNeg, oCmpI, oLt, oLe, oGt, oGe, subS, setAll, bInt, bDivmod, bAbs, bMax2, truM, isTys, isTy, Bool.or_false, Bool.false_or, Bool.true_or, Bool.or_true, Bool.and_true, Bool.true_and, Bool.and_false, Bool.false_and, Bool.not_true, Bool.not_false, eq_str, eq_int, ne_str, ne_int, nat_beq, Int.reduceEq, Int.reduceLT, Int.reduceLE, decide_true, decide_false, reduceCtorEq, l2]
end
end W_k11

set_option Elab.async false
set_option linter.all false
set_option maxRecDepth 100000
set_option maxHeartbeats 1000000
namespace W_k11
open PySem Mini
theorem str_of {x y : Str} (h : strEq x y = true) : x = y := strEq_iff.mp h
theorem dbl_letter {s : Str} (h : strEq s "letter" = true) : dbl s = false := by rw [str_of h]; decide +kernel
theorem dbl_one {s : Str} (h : strEq s "one" = true) : dbl s = false := by rw [str_of h]; decide +kernel
theorem letter_one {s : Str} (h : strEq s "one" = true) : strEq s "letter" = false := by rw [str_of h]; decide +kernel
/-- the shape of what looks like a kind -/
inductive Lk : Nat → MV → Prop
  | let_ {d : Nat} {s : Str} {i : Int} (h : strEq s "letter" = true) : 0 ≤ i → i ≤ 5 → Lk (d + 1) (.tup [.str s, .int i])
  | one {d : Nat} {s : Str} (h : strEq s "one" = true) : Lk (d + 1) (.tup [.str s])
  | two {d : Nat} {s : Str} {x y : MV} : strEq s "letter" = false → strEq s "one" = false → dbl s = true → Lk d x → Lk d y → Lk (d + 1) (.tup [.str s, x, y])
theorem lk_iff : ∀ {d : Nat} {v : MV}, lk d v = true → Lk d v
  | 0, v, h => by simp [lk] at h
  | d + 1, v, h => by
    match v, h with
    | .tup (.str w :: r), h =>
      simp only [lk] at h
      cases q1 : strEq w "letter" with
      | true =>
        rw [q1, cond_true] at h
        match r, h with
        | [.int i], h =>
          simp only [Bool.and_eq_true, decide_eq_true_eq] at h
          exact .let_ q1 h.1 h.2
      | false =>
        rw [q1, cond_false] at h
        cases q2 : strEq w "one" with
        | true =>
          rw [q2, cond_true] at h
          match r, h with
          | [], _ => exact .one q2
        | false =>
          rw [q2, cond_false, Bool.and_eq_true] at h
          obtain ⟨h1, h2⟩ := h
          match r, h2 with
          | [x, y], h2 =>
            simp only [Bool.and_eq_true] at h2
            exact .two q1 q2 h1 (lk_iff h2.1) (lk_iff h2.2)
theorem Lk.lk {d : Nat} {v : MV} (h : Lk d v) : lk d v = true := by
  induction h with
  | let_ h a b => simp only [W_k11.lk, h, cond_true, decide_eq_true a, decide_eq_true b, Bool.and_true]
  | one h => simp only [W_k11.lk, letter_one h, h, cond_true, cond_false, List.isEmpty]
  | two h1 h2 h3 _ _ i1 i2 => simp only [W_k11.lk, h1, h2, h3, cond_false, i1, i2, Bool.and_true]
def sg : Nat → MV → Int
  | 0, _ => 1
  | d + 1, v => match v with
    | .tup [.str w, x, y] => bif dbl w then 1 + sg d x + sg d y else 1
    | _ => 1
def dp : Nat → MV → Int
  | 0, _ => 1
  | d + 1, v => match v with
    | .tup [.str w, x, y] => bif dbl w then 1 + max (dp d x) (dp d y) else 1
    | _ => 1
theorem dp_pos : ∀ (d : Nat) (v : MV), 1 ≤ dp d v
  | 0, _ => by simp [dp]
  | d + 1, v => by
    unfold dp
    split
    · next s x y =>
      cases dbl s with
      | true => rw [cond_true]; have := dp_pos d x; omega
      | false => rw [cond_false]; omega
    · omega
theorem Lk.dp_le {d : Nat} {v : MV} (h : Lk d v) : dp d v ≤ d := by
  induction h with
  | let_ _ _ _ => simp only [dp]; omega
  | one _ => simp only [dp]; omega
  | two _ _ h3 _ _ i1 i2 => simp only [dp, h3, cond_true]; omega
/-- of two depths of looking, the smaller one sees it if it is not deeper -/
theorem Lk.down {f : Nat} {v : MV} (h : Lk f v) : ∀ d : Nat, dp f v ≤ d → Lk d v := by
  induction h with
  | let_ h a b => intro d hd; simp only [dp] at hd; obtain ⟨d, rfl⟩ : ∃ k, d = k + 1 := ⟨d - 1, by omega⟩; exact .let_ h a b
  | one h => intro d hd; simp only [dp] at hd; obtain ⟨d, rfl⟩ : ∃ k, d = k + 1 := ⟨d - 1, by omega⟩; exact .one h
  | @two f _ x y h1 h2 h3 _ _ i1 i2 =>
    intro d hd; simp only [dp, h3, cond_true] at hd; have p1 := dp_pos f x; have p2 := dp_pos f y; obtain ⟨d, rfl⟩ : ∃ k, d = k + 1 := ⟨d - 1, by omega⟩
    exact .two h1 h2 h3 (i1 d (by omega)) (i2 d (by omega))
theorem Lk.up {d : Nat} {v : MV} (h : Lk d v) : ∀ f : Nat, d ≤ f → Lk f v := by
  induction h with
  | let_ h a b => intro f hf; obtain ⟨f, rfl⟩ : ∃ k, f = k + 1 := ⟨f - 1, by omega⟩; exact .let_ h a b
  | one h => intro f hf; obtain ⟨f, rfl⟩ : ∃ k, f = k + 1 := ⟨f - 1, by omega⟩; exact .one h
  | two h1 h2 h3 _ _ i1 i2 => intro f hf; obtain ⟨f, rfl⟩ : ∃ k, f = k + 1 := ⟨f - 1, by omega⟩; exact .two h1 h2 h3 (i1 f (by omega)) (i2 f (by omega))
theorem Lk.same {d : Nat} {v : MV} (h : Lk d v) : ∀ f : Nat, Lk f v → sg d v = sg f v ∧ dp d v = dp f v := by
  induction h with
  | let_ h a b => intro f hf; cases hf; simp only [sg, dp, and_self]
  | one h => intro f hf; cases hf; simp only [sg, dp, and_self]
  | two h1 h2 h3 _ _ i1 i2 =>
    intro f hf
    cases hf with
    | two _ _ _ k1 k2 =>
      obtain ⟨e1, e2⟩ := i1 _ k1
      obtain ⟨e3, e4⟩ := i2 _ k2
      simp only [sg, dp, h3, e1, e2, e3, e4, and_self]
/-- the two ways of judging agree -/
theorem agree {f : Nat} (hf : 12 ≤ f) (v : MV) : (lk f v && (decide (sg f v ≤ 60) && decide (dp f v ≤ 12))) = (lk 12 v && decide (sg 12 v ≤ 60)) := by
  cases q : lk 12 v with
  | true =>
    have h := lk_iff q
    have h2 := h.up f hf
    obtain ⟨e1, e2⟩ := h.same f h2
    have h3 := h.dp_le
    rw [h2.lk, e1, decide_eq_true (show dp f v ≤ 12 by omega), Bool.and_true]
  | false =>
    rw [Bool.false_and]
    cases q2 : lk f v with
    | false => rfl
    | true =>
      have h := lk_iff q2
      rw [decide_eq_false (p := dp f v ≤ 12) fun z => by
        have := (h.down 12 z).lk
        rw [q] at this; cases this]
      simp
section
variable {a : Nat} {m : M} {v : MV} {w h : Nat}
theorem signs_ok {d : Nat} {v : MV} (h : Lk d v) : ∀ (k : Nat) (m : M), d ≤ k → tab bodies k 3 [v] m = .ok (.int (sg d v)) m := by
  induction h with
  | let_ h _ _ =>
    intro k m hk; obtain ⟨k, rfl⟩ : ∃ j, k = j + 1 := ⟨k - 1, by omega⟩
    rw [show tab bodies (k + 1) 3 = runB 1 0 (c_signs_of (tab bodies k)) from rfl, x_run rfl]
    simp only [c_signs_of, of_some, v_lit, v_var, v_nil, v_dct0, v_none, x_nil, x_cont, y_nm, y_nil, g_bin20, e_bin1, g_bin10, e_un1, g_un10, g_cons20, e_cons1, g_cons10, g_tup20, e_tup1, g_tup10, g_lst20, e_lst1, g_lst10, g_fun20, e_fun1, g_fun10, g_key20, e_key1, g_key10, e_ap1, g_ap10, e_pick, g_pick0, g_pick1, g_pick2, g_pick3, e_sif, e_and1, g_and10, g_and11, e_or1, g_or10, g_or11, e_not1, g_not, g_chain40, g_chain30, g_chain31, g_chain20, e_chain1, g_chain10, e_val1, g_val, e_tru1, g_tru10, e_tand, g_tand0, g_tand1, e_tor, g_tor0, g_tor1, e_tnot, g_tnot, g_isi2, e_isi1, g_isi10, g_sl30, g_sl20, e_sl1, g_sl10, e_part1, g_part10, g_meA0, e_me0, g_me00, g_meB0, e_me1, g_me10, e_seq1, g_seq10, g_seq11, g_seq12, e_ret1, g_ret10, e_expr1, g_expr10, g_asg20, e_asg1, g_asg10, g_par20, e_par1, g_par10, e_gtup, g_gtup0, e_gs1, g_gs10, g_sub20, e_sub1, g_sub10, g_run10, g_run11, add_ii, ixt0, ixt1, ixt2, len_t0, len_t1, len_t2, len_t3, mkS, List.map_cons, List.map_nil, List.replicate, List.cons_append, List.nil_append, List.length_cons, List.length_nil, Nat.zero_add, Nat.reduceAdd, Nat.reduceBEq, Nat.beq, cond_true, cond_false, nth, setN, at?, oSub, oMul, oDiv, oMod, uNeg, oCmpI, oLt, oLe, oGt, oGe, subS, setAll, bInt, bDivmod, bAbs, bMax2, truM, isTys, isTy, Bool.or_false, Bool.false_or, Bool.true_or, Bool.or_true, Bool.and_true, Bool.true_and, Bool.and_false, Bool.false_and, Bool.not_true, Bool.not_false, eq_str, eq_int, ne_str, ne_int, nat_beq, Int.reduceEq, Int.reduceLT, Int.reduceLE, decide_true, decide_false, reduceCtorEq, in_dbl, dbl_letter h, sg]
  | one h =>
    intro k m hk; obtain ⟨k, rfl⟩ : ∃ j, k = j + 1 := ⟨k - 1, by omega⟩
    rw [show tab bodies (k + 1) 3 = runB 1 0 (c_signs_of (tab bodies k)) from rfl, x_run rfl]
    simp only [c_signs_of, of_some, v_lit, v_var, v_nil, v_dct0, v_none, x_nil, x_cont, y_nm, y_nil, g_bin20, e_bin1, g_bin10, e_un1, g_un10, g_cons20, e_cons1, g_cons10, g_tup20, e_tup1, g_tup10, g_lst20, e_lst1, g_lst10, g_fun20, e_fun1, g_fun10, g_key20, e_key1, g_key10, e_ap1, g_ap10, e_pick, g_pick0, g_pick1, g_pick2, g_pick3, e_sif, e_and1, g_and10, g_and11, e_or1, g_or10, g_or11, e_not1, g_not, g_chain40, g_chain30, g_chain31, g_chain20, e_chain1, g_chain10, e_val1, g_val, e_tru1, g_tru10, e_tand, g_tand0, g_tand1, e_tor, g_tor0, g_tor1, e_tnot, g_tnot, g_isi2, e_isi1, g_isi10, g_sl30, g_sl20, e_sl1, g_sl10, e_part1, g_part10, g_meA0, e_me0, g_me00, g_meB0, e_me1, g_me10, e_seq1, g_seq10, g_seq11, g_seq12, e_ret1, g_ret10, e_expr1, g_expr10, g_asg20, e_asg1, g_asg10, g_par20, e_par1, g_par10, e_gtup, g_gtup0, e_gs1, g_gs10, g_sub20, e_sub1, g_sub10, g_run10, g_run11, add_ii, ixt0, ixt1, ixt2, len_t0, len_t1, len_t2, len_t3, mkS, List.map_cons, List.map_nil, List.replicate, List.cons_append, List.nil_append, List.length_cons, List.length_nil, Nat.zero_add, Nat.reduceAdd, Nat.reduceBEq, Nat.beq, cond_true, cond_false, nth, setN, at?, oSub, oMul, oDiv, oMod, uNeg, oCmpI, oLt, oLe, oGt, oGe, subS, setAll, bInt, bDivmod, bAbs, bMax2, truM, isTys, isTy, Bool.or_false, Bool.false_or, Bool.true_or, Bool.or_true, Bool.and_true, Bool.true_and, Bool.and_false, Bool.false_and, Bool.not_true, Bool.not_false, eq_str, eq_int, ne_str, ne_int, nat_beq, Int.reduceEq, Int.reduceLT, Int.reduceLE, decide_true, decide_false, reduceCtorEq, in_dbl, dbl_one h, sg]
  | two _ _ h3 _ _ i1 i2 =>
    intro k m hk; obtain ⟨k, rfl⟩ : ∃ j, k = j + 1 := ⟨k - 1, by omega⟩
    rw [show tab bodies (k + 1) 3 = runB 1 0 (c_signs_of (tab bodies k)) from rfl, x_run rfl]
    simp only [c_signs_of, of_some, v_lit, v_var, v_nil, v_dct0, v_none, x_nil, x_cont, y_nm, y_nil, g_bin20, e_bin1, g_bin10, e_un1, g_un10, g_cons20, e_cons1, g_cons10, g_tup20, e_tup1, g_tup10, g_lst20, e_lst1, g_lst10, g_fun20, e_fun1, g_fun10, g_key20, e_key1, g_key10, e_ap1, g_ap10, e_pick, g_pick0, g_pick1, g_pick2, g_pick3, e_sif, e_and1, g_and10, g_and11, e_or1, g_or10, g_or11, e_not1, g_not, g_chain40, g_chain30, g_chain31, g_chain20, e_chain1, g_chain10, e_val1, g_val, e_tru1, g_tru10, e_tand, g_tand0, g_tand1, e_tor, g_tor0, g_tor1, e_tnot, g_tnot, g_isi2, e_isi1, g_isi10, g_sl30, g_sl20, e_sl1, g_sl10, e_part1, g_part10, g_meA0, e_me0, g_me00, g_meB0, e_me1, g_me10, e_seq1, g_seq10, g_seq11, g_seq12, e_ret1, g_ret10, e_expr1, g_expr10, g_asg20, e_asg1, g_asg10, g_par20, e_par1, g_par10, e_gtup, g_gtup0, e_gs1, g_gs10, g_sub20, e_sub1, g_sub10, g_run10, g_run11, add_ii, ixt0, ixt1, ixt2, len_t0, len_t1, len_t2, len_t3, mkS, List.map_cons, List.map_nil, List.replicate, List.cons_append, List.nil_append, List.length_cons, List.length_nil, Nat.zero_add, Nat.reduceAdd, Nat.reduceBEq, Nat.beq, cond_true, cond_false, nth, setN, at?, oSub, oMul, oDiv, oMod, uNeg, oCmpI, oLt, oLe, oGt, oGe, subS, setAll, bInt, bDivmod, bAbs, bMax2, truM, isTys, isTy, Bool.or_false, Bool.false_or, Bool.true_or, Bool.or_true, Bool.and_true, Bool.true_and, Bool.and_false, Bool.false_and, Bool.not_true, Bool.not_false, eq_str, eq_int, ne_str, ne_int, nat_beq, Int.reduceEq, Int.reduceLT, Int.reduceLE, decide_true, decide_false, reduceCtorEq, in_dbl, h3, sg, i1 k m (by omega), i2 k m (by omega)]
theorem is_kind_ok (n : Nice a m [v] w h) (hw : w ≤ 600000) (hh : h ≤ 60) (k : Nat) (hk : 16 ≤ k) : tab bodies k 4 [v] m = .ok (.bl (lk 12 v && decide (sg 12 v ≤ 60))) m := by
  obtain ⟨k, rfl⟩ : ∃ j, k = j + 1 := ⟨k - 1, by omega⟩
  rw [show tab bodies (k + 1) 4 = runB 1 0 (c_is_kind (tab bodies k)) from rfl, x_run rfl]
  have z := shaped_ok 12 n hw hh k (by omega)
  rw [show ((12 : Nat) : Int) = 12 from rfl] at z
  cases q : lk 12 v with
  | false => simp only [c_is_kind, of_some, v_lit, v_var, v_nil, v_dct0, v_none, x_nil, x_cont, y_nm, y_nil, g_bin20, e_bin1, g_bin10, e_un1, g_un10, g_cons20, e_cons1, g_cons10, g_tup20, e_tup1, g_tup10, g_lst20, e_lst1, g_lst10, g_fun20, e_fun1, g_fun10, g_key20, e_key1, g_key10, e_ap1, g_ap10, e_pick, g_pick0, g_pick1, g_pick2, g_pick3, e_sif, e_and1, g_and10, g_and11, e_or1, g_or10, g_or11, e_not1, g_not, g_chain40, g_chain30, g_chain31, g_chain20, e_chain1, g_chain10, e_val1, g_val, e_tru1, g_tru10, e_tand, g_tand0, g_tand1, e_tor, g_tor0, g_tor1, e_tnot, g_tnot, g_isi2, e_isi1, g_isi10, g_sl30, g_sl20, e_sl1, g_sl10, e_part1, g_part10, g_meA0, e_me0, g_me00, g_meB0, e_me1, g_me10, e_seq1, g_seq10, g_seq11, g_seq12, e_ret1, g_ret10, e_expr1, g_expr10, g_asg20, e_asg1, g_asg10, g_par20, e_par1, g_par10, e_gtup, g_gtup0, e_gs1, g_gs10, g_sub20, e_sub1, g_sub10, g_run10, g_run11, add_ii, ixt0, ixt1, ixt2, len_t0, len_t1, len_t2, len_t3, mkS, List.map_cons, List.map_nil, List.replicate, List.cons_append, List.nil_append, List.length_cons, List.length_nil, Nat.zero_add, Nat.reduceAdd, Nat.reduceBEq, Nat.beq, cond_true, cond_false, nth, setN, at?, oSub, oMul, oDiv, oMod, uNeg, oCmpI, oLt, oLe, oGt, oGe, subS, setAll, bInt, bDivmod, bAbs, bMax2, truM, isTys, isTy, Bool.or_false, Bool.false_or, Bool.true_or, Bool.or_true, Bool.and_true, Bool.true_and, Bool.and_false, Bool.false_and, Bool.not_true, Bool.not_false, eq_str, eq_int, ne_str, ne_int, nat_beq, Int.reduceEq, Int.reduceLT, Int.reduceLE, decide_true, decide_false, reduceCtorEq, z, q]
  | true =>
    have z2 := signs_ok (lk_iff q) k m (by omega)
    simp only [c_is_kind, of_some, v_lit, v_var, v_nil, v_dct0, v_none, x_nil, x_cont, y_nm, y_nil, g_bin20, e_bin1, g_bin10, e_un1, g_un10, g_cons20, e_cons1, g_cons10, g_tup20, e_tup1, g_tup10, g_lst20, e_lst1, g_lst10, g_fun20, e_fun1, g_fun10, g_key20, e_key1, g_key10, e_ap1, g_ap10, e_pick, g_pick0, g_pick1, g_pick2, g_pick3, e_sif, e_and1, g_and10, g_and11, e_or1, g_or10, g_or11, e_not1, g_not, g_chain40, g_chain30, g_chain31, g_chain20, e_chain1, g_chain10, e_val1, g_val, e_tru1, g_tru10, e_tand, g_tand0, g_tand1, e_tor, g_tor0, g_tor1, e_tnot, g_tnot, g_isi2, e_isi1, g_isi10, g_sl30, g_sl20, e_sl1, g_sl10, e_part1, g_part10, g_meA0, e_me0, g_me00, g_meB0, e_me1, g_me10, e_seq1, g_seq10, g_seq11, g_seq12, e_ret1, g_ret10, e_expr1, g_expr10, g_asg20, e_asg1, g_asg10, g_par20, e_par1, g_par10, e_gtup, g_gtup0, e_gs1, g_gs10, g_sub20, e_sub1, g_sub10, g_run10, g_run11, add_ii, ixt0, ixt1, ixt2, len_t0, len_t1, len_t2, len_t3, mkS, List.map_cons, List.map_nil, List.replicate, List.cons_append, List.nil_append, List.length_cons, List.length_nil, Nat.zero_add, Nat.reduceAdd, Nat.reduceBEq, Nat.beq, cond_true, cond_false, nth, setN, at?, oSub, oMul, oDiv, oMod, uNeg, oCmpI, oLt, oLe, oGt, oGe, subS, setAll, bInt, bDivmod, bAbs, bMax2, truM, isTys, isTy, Bool.or_false, Bool.false_or, Bool.true_or, Bool.or_true, Bool.and_true, Bool.true_and, Bool.and_false, Bool.false_and, Bool.not_true, Bool.not_false, eq_str, eq_int, ne_str, ne_int, nat_beq, Int.reduceEq, Int.reduceLT, Int.reduceLE, decide_true, decide_false, reduceCtorEq, z, z2, q]
theorem is_a_kind_ok (n : Nice a m [v] w h) (hw : w ≤ 600000) (hh : h ≤ 60) (k : Nat) (hk : 17 ≤ k) : tab bodies k 5 [v] m = .ok (.bl (lk 12 v && decide (sg 12 v ≤ 60))) m := by
  obtain ⟨k, rfl⟩ : ∃ j, k = j + 1 := ⟨k - 1, by omega⟩
  rw [show tab bodies (k + 1) 5 = runB 1 0 (c_is_a_kind (tab bodies k)) from rfl, x_run rfl]
  simp only [c_is_a_kind, of_some, v_lit, v_var, v_nil, v_dct0, v_none, x_nil, x_cont, y_nm, y_nil, g_bin20, e_bin1, g_bin10, e_un1, g_un10, g_cons20, e_cons1, g_cons10, g_tup20, e_tup1, g_tup10, g_lst20, e_lst1, g_lst10, g_fun20, e_fun1, g_fun10, g_key20, e_key1, g_key10, e_ap1, g_ap10, e_pick, g_pick0, g_pick1, g_pick2, g_pick3, e_sif, e_and1, g_and10, g_and11, e_or1, g_or10, g_or11, e_not1, g_not, g_chain40, g_chain30, g_chain31, g_chain20, e_chain1, g_chain10, e_val1, g_val, e_tru1, g_tru10, e_tand, g_tand0, g_tand1, e_tor, g_tor0, g_tor1, e_tnot, g_tnot, g_isi2, e_isi1, g_isi10, g_sl30, g_sl20, e_sl1, g_sl10, e_part1, g_part10, g_meA0, e_me0, g_me00, g_meB0, e_me1, g_me10, e_seq1, g_seq10, g_seq11, g_seq12, e_ret1, g_ret10, e_expr1, g_expr10, g_asg20, e_asg1, g_asg10, g_par20, e_par1, g_par10, e_gtup, g_gtup0, e_gs1, g_gs10, g_sub20, e_sub1, g_sub10, g_run10, g_run11, add_ii, ixt0, ixt1, ixt2, len_t0, len_t1, len_t2, len_t3, mkS, List.map_cons, List.map_nil, List.replicate, List.cons_append, List.nil_append, List.length_cons, List.length_nil, Nat.zero_add, Nat.reduceAdd, Nat.reduceBEq, Nat.beq, cond_true, cond_false, nth, setN, at?, oSub, oMul, oDiv, oMod, uNeg, oCmpI, oLt, oLe, oGt, oGe, subS, setAll, bInt, bDivmod, bAbs, bMax2, truM, isTys, isTy, Bool.or_false, Bool.false_or, Bool.true_or, Bool.or_true, Bool.and_true, Bool.true_and, Bool.and_false, Bool.false_and, Bool.not_true, Bool.not_false, eq_str, eq_int, ne_str, ne_int, nat_beq, Int.reduceEq, Int.reduceLT, Int.reduceLE, decide_true, decide_false, reduceCtorEq, is_kind_ok n hw hh k (by omega)]
end
end W_k11

set_option Elab.async false
set_option linter.all false
set_option maxRecDepth 100000
set_option maxHeartbeats 1000000
namespace W_k11
open PySem Mini
theorem ft1 : fits 1 = true := rfl
theorem ft2 : fits 2 = true := rfl
theorem ft3 : fits 3 = true := rfl
theorem in_law {x : Str} {m : M} : oIn false (.str x) (.tup [.str "pair", .str "sum", .str "fun"]) m = .ok (.bl (dbl x)) m := rfl
theorem one_letter {s : Str} (h : strEq s "letter" = true) : strEq s "one" = false := by rw [str_of h]; decide +kernel
theorem look_ok : ∀ (f : Nat) {a : Nat} {m : M} {v : MV} {w h : Nat}, Nice a m [v] w h → h < f → w ≤ 600000 → ∀ k, f ≤ k → ∃ m', tab bodies k 12 [v] m = .ok (.bl (lk f v)) m' ∧ Grow m m'
  | 0, a, m, v, w, h, n, hf, hw, k, hk => by omega
  | f + 1, a, m, v, w, h, n, hf, hw, k, hk => by
    obtain ⟨k, rfl⟩ : ∃ j, k = j + 1 := ⟨k - 1, by omega⟩
    rw [show tab bodies (k + 1) 12 = runB 1 1 (c__law_look (tab bodies k)) from rfl, x_run rfl]
    cases n.form with
    | lst b l g => exact ⟨m, by simp only [c__law_look, of_some, v_lit, v_var, v_nil, v_dct0, v_none, x_nil, x_cont, y_nm, y_nil, g_bin20, e_bin1, g_bin10, e_un1, g_un10, g_cons20, e_cons1, g_cons10, g_tup20, e_tup1, g_tup10, g_lst20, e_lst1, g_lst10, g_fun20, e_fun1, g_fun10, g_key20, e_key1, g_key10, e_ap1, g_ap10, e_pick, g_pick0, g_pick1, g_pick2, g_pick3, e_sif, e_and1, g_and10, g_and11, e_or1, g_or10, g_or11, e_not1, g_not, g_chain40, g_chain30, g_chain31, g_chain20, e_chain1, g_chain10, e_val1, g_val, e_tru1, g_tru10, e_tand, g_tand0, g_tand1, e_tor, g_tor0, g_tor1, e_tnot, g_tnot, g_isi2, e_isi1, g_isi10, g_sl30, g_sl20, e_sl1, g_sl10, e_part1, g_part10, g_meA0, e_me0, g_me00, g_meB0, e_me1, g_me10, e_seq1, g_seq10, g_seq11, g_seq12, e_ret1, g_ret10, e_expr1, g_expr10, g_asg20, e_asg1, g_asg10, g_par20, e_par1, g_par10, e_gtup, g_gtup0, e_gs1, g_gs10, g_sub20, e_sub1, g_sub10, g_run10, g_run11, add_ii, ixt0, ixt1, ixt2, len_t0, len_t1, len_t2, len_t3, mkS, List.map_cons, List.map_nil, List.replicate, List.cons_append, List.nil_append, List.length_cons, List.length_nil, Nat.zero_add, Nat.reduceAdd, Nat.reduceBEq, Nat.beq, cond_true, cond_false, nth, setN, at?, oSub, oMul, oDiv, oMod, uNeg, oCmpI, oLt, oLe, oGt, oGe, subS, setAll, bInt, bDivmod, bAbs, bMax2, truM, isTys, isTy, Bool.or_false, Bool.false_or, Bool.true_or, Bool.or_true, Bool.and_true, Bool.true_and, Bool.and_false, Bool.false_and, Bool.not_true, Bool.not_false, eq_str, eq_int, ne_str, ne_int, nat_beq, Int.reduceEq, Int.reduceLT, Int.reduceLE, decide_true, decide_false, reduceCtorEq, g, lk], .refl⟩
    | non => exact ⟨m, by simp only [c__law_look, of_some, v_lit, v_var, v_nil, v_dct0, v_none, x_nil, x_cont, y_nm, y_nil, g_bin20, e_bin1, g_bin10, e_un1, g_un10, g_cons20, e_cons1, g_cons10, g_tup20, e_tup1, g_tup10, g_lst20, e_lst1, g_lst10, g_fun20, e_fun1, g_fun10, g_key20, e_key1, g_key10, e_ap1, g_ap10, e_pick, g_pick0, g_pick1, g_pick2, g_pick3, e_sif, e_and1, g_and10, g_and11, e_or1, g_or10, g_or11, e_not1, g_not, g_chain40, g_chain30, g_chain31, g_chain20, e_chain1, g_chain10, e_val1, g_val, e_tru1, g_tru10, e_tand, g_tand0, g_tand1, e_tor, g_tor0, g_tor1, e_tnot, g_tnot, g_isi2, e_isi1, g_isi10, g_sl30, g_sl20, e_sl1, g_sl10, e_part1, g_part10, g_meA0, e_me0, g_me00, g_meB0, e_me1, g_me10, e_seq1, g_seq10, g_seq11, g_seq12, e_ret1, g_ret10, e_expr1, g_expr10, g_asg20, e_asg1, g_asg10, g_par20, e_par1, g_par10, e_gtup, g_gtup0, e_gs1, g_gs10, g_sub20, e_sub1, g_sub10, g_run10, g_run11, add_ii, ixt0, ixt1, ixt2, len_t0, len_t1, len_t2, len_t3, mkS, List.map_cons, List.map_nil, List.replicate, List.cons_append, List.nil_append, List.length_cons, List.length_nil, Nat.zero_add, Nat.reduceAdd, Nat.reduceBEq, Nat.beq, cond_true, cond_false, nth, setN, at?, oSub, oMul, oDiv, oMod, uNeg, oCmpI, oLt, oLe, oGt, oGe, subS, setAll, bInt, bDivmod, bAbs, bMax2, truM, isTys, isTy, Bool.or_false, Bool.false_or, Bool.true_or, Bool.or_true, Bool.and_true, Bool.true_and, Bool.and_false, Bool.false_and, Bool.not_true, Bool.not_false, eq_str, eq_int, ne_str, ne_int, nat_beq, Int.reduceEq, Int.reduceLT, Int.reduceLE, decide_true, decide_false, reduceCtorEq, lk], .refl⟩
    | bl b => exact ⟨m, by simp only [c__law_look, of_some, v_lit, v_var, v_nil, v_dct0, v_none, x_nil, x_cont, y_nm, y_nil, g_bin20, e_bin1, g_bin10, e_un1, g_un10, g_cons20, e_cons1, g_cons10, g_tup20, e_tup1, g_tup10, g_lst20, e_lst1, g_lst10, g_fun20, e_fun1, g_fun10, g_key20, e_key1, g_key10, e_ap1, g_ap10, e_pick, g_pick0, g_pick1, g_pick2, g_pick3, e_sif, e_and1, g_and10, g_and11, e_or1, g_or10, g_or11, e_not1, g_not, g_chain40, g_chain30, g_chain31, g_chain20, e_chain1, g_chain10, e_val1, g_val, e_tru1, g_tru10, e_tand, g_tand0, g_tand1, e_tor, g_tor0, g_tor1, e_tnot, g_tnot, g_isi2, e_isi1, g_isi10, g_sl30, g_sl20, e_sl1, g_sl10, e_part1, g_part10, g_meA0, e_me0, g_me00, g_meB0, e_me1, g_me10, e_seq1, g_seq10, g_seq11, g_seq12, e_ret1, g_ret10, e_expr1, g_expr10, g_asg20, e_asg1, g_asg10, g_par20, e_par1, g_par10, e_gtup, g_gtup0, e_gs1, g_gs10, g_sub20, e_sub1, g_sub10, g_run10, g_run11, add_ii, ixt0, ixt1, ixt2, len_t0, len_t1, len_t2, len_t3, mkS, List.map_cons, List.map_nil, List.replicate, List.cons_append, List.nil_append, List.length_cons, List.length_nil, Nat.zero_add, Nat.reduceAdd, Nat.reduceBEq, Nat.beq, cond_true, cond_false, nth, setN, at?, oSub, oMul, oDiv, oMod, uNeg, oCmpI, oLt, oLe, oGt, oGe, subS, setAll, bInt, bDivmod, bAbs, bMax2, truM, isTys, isTy, Bool.or_false, Bool.false_or, Bool.true_or, Bool.or_true, Bool.and_true, Bool.true_and, Bool.and_false, Bool.false_and, Bool.not_true, Bool.not_false, eq_str, eq_int, ne_str, ne_int, nat_beq, Int.reduceEq, Int.reduceLT, Int.reduceLE, decide_true, decide_false, reduceCtorEq, lk], .refl⟩
    | int i => exact ⟨m, by simp only [c__law_look, of_some, v_lit, v_var, v_nil, v_dct0, v_none, x_nil, x_cont, y_nm, y_nil, g_bin20, e_bin1, g_bin10, e_un1, g_un10, g_cons20, e_cons1, g_cons10, g_tup20, e_tup1, g_tup10, g_lst20, e_lst1, g_lst10, g_fun20, e_fun1, g_fun10, g_key20, e_key1, g_key10, e_ap1, g_ap10, e_pick, g_pick0, g_pick1, g_pick2, g_pick3, e_sif, e_and1, g_and10, g_and11, e_or1, g_or10, g_or11, e_not1, g_not, g_chain40, g_chain30, g_chain31, g_chain20, e_chain1, g_chain10, e_val1, g_val, e_tru1, g_tru10, e_tand, g_tand0, g_tand1, e_tor, g_tor0, g_tor1, e_tnot, g_tnot, g_isi2, e_isi1, g_isi10, g_sl30, g_sl20, e_sl1, g_sl10, e_part1, g_part10, g_meA0, e_me0, g_me00, g_meB0, e_me1, g_me10, e_seq1, g_seq10, g_seq11, g_seq12, e_ret1, g_ret10, e_expr1, g_expr10, g_asg20, e_asg1, g_asg10, g_par20, e_par1, g_par10, e_gtup, g_gtup0, e_gs1, g_gs10, g_sub20, e_sub1, g_sub10, g_run10, g_run11, add_ii, ixt0, ixt1, ixt2, len_t0, len_t1, len_t2, len_t3, mkS, List.map_cons, List.map_nil, List.replicate, List.cons_append, List.nil_append, List.length_cons, List.length_nil, Nat.zero_add, Nat.reduceAdd, Nat.reduceBEq, Nat.beq, cond_true, cond_false, nth, setN, at?, oSub, oMul, oDiv, oMod, uNeg, oCmpI, oLt, oLe, oGt, oGe, subS, setAll, bInt, bDivmod, bAbs, bMax2, truM, isTys, isTy, Bool.or_false, Bool.false_or, Bool.true_or, Bool.or_true, Bool.and_true, Bool.true_and, Bool.and_false, Bool.false_and, Bool.not_true, Bool.not_false, eq_str, eq_int, ne_str, ne_int, nat_beq, Int.reduceEq, Int.reduceLT, Int.reduceLE, decide_true, decide_false, reduceCtorEq, lk], .refl⟩
    | str x => exact ⟨m, by simp only [c__law_look, of_some, v_lit, v_var, v_nil, v_dct0, v_none, x_nil, x_cont, y_nm, y_nil, g_bin20, e_bin1, g_bin10, e_un1, g_un10, g_cons20, e_cons1, g_cons10, g_tup20, e_tup1, g_tup10, g_lst20, e_lst1, g_lst10, g_fun20, e_fun1, g_fun10, g_key20, e_key1, g_key10, e_ap1, g_ap10, e_pick, g_pick0, g_pick1, g_pick2, g_pick3, e_sif, e_and1, g_and10, g_and11, e_or1, g_or10, g_or11, e_not1, g_not, g_chain40, g_chain30, g_chain31, g_chain20, e_chain1, g_chain10, e_val1, g_val, e_tru1, g_tru10, e_tand, g_tand0, g_tand1, e_tor, g_tor0, g_tor1, e_tnot, g_tnot, g_isi2, e_isi1, g_isi10, g_sl30, g_sl20, e_sl1, g_sl10, e_part1, g_part10, g_meA0, e_me0, g_me00, g_meB0, e_me1, g_me10, e_seq1, g_seq10, g_seq11, g_seq12, e_ret1, g_ret10, e_expr1, g_expr10, g_asg20, e_asg1, g_asg10, g_par20, e_par1, g_par10, e_gtup, g_gtup0, e_gs1, g_gs10, g_sub20, e_sub1, g_sub10, g_run10, g_run11, add_ii, ixt0, ixt1, ixt2, len_t0, len_t1, len_t2, len_t3, mkS, List.map_cons, List.map_nil, List.replicate, List.cons_append, List.nil_append, List.length_cons, List.length_nil, Nat.zero_add, Nat.reduceAdd, Nat.reduceBEq, Nat.beq, cond_true, cond_false, nth, setN, at?, oSub, oMul, oDiv, oMod, uNeg, oCmpI, oLt, oLe, oGt, oGe, subS, setAll, bInt, bDivmod, bAbs, bMax2, truM, isTys, isTy, Bool.or_false, Bool.false_or, Bool.true_or, Bool.or_true, Bool.and_true, Bool.true_and, Bool.and_false, Bool.false_and, Bool.not_true, Bool.not_false, eq_str, eq_int, ne_str, ne_int, nat_beq, Int.reduceEq, Int.reduceLT, Int.reduceLE, decide_true, decide_false, reduceCtorEq, lk], .refl⟩
    | tup l =>
      cases l with
      | nil => exact ⟨m, by simp only [c__law_look, of_some, v_lit, v_var, v_nil, v_dct0, v_none, x_nil, x_cont, y_nm, y_nil, g_bin20, e_bin1, g_bin10, e_un1, g_un10, g_cons20, e_cons1, g_cons10, g_tup20, e_tup1, g_tup10, g_lst20, e_lst1, g_lst10, g_fun20, e_fun1, g_fun10, g_key20, e_key1, g_key10, e_ap1, g_ap10, e_pick, g_pick0, g_pick1, g_pick2, g_pick3, e_sif, e_and1, g_and10, g_and11, e_or1, g_or10, g_or11, e_not1, g_not, g_chain40, g_chain30, g_chain31, g_chain20, e_chain1, g_chain10, e_val1, g_val, e_tru1, g_tru10, e_tand, g_tand0, g_tand1, e_tor, g_tor0, g_tor1, e_tnot, g_tnot, g_isi2, e_isi1, g_isi10, g_sl30, g_sl20, e_sl1, g_sl10, e_part1, g_part10, g_meA0, e_me0, g_me00, g_meB0, e_me1, g_me10, e_seq1, g_seq10, g_seq11, g_seq12, e_ret1, g_ret10, e_expr1, g_expr10, g_asg20, e_asg1, g_asg10, g_par20, e_par1, g_par10, e_gtup, g_gtup0, e_gs1, g_gs10, g_sub20, e_sub1, g_sub10, g_run10, g_run11, add_ii, ixt0, ixt1, ixt2, len_t0, len_t1, len_t2, len_t3, mkS, List.map_cons, List.map_nil, List.replicate, List.cons_append, List.nil_append, List.length_cons, List.length_nil, Nat.zero_add, Nat.reduceAdd, Nat.reduceBEq, Nat.beq, cond_true, cond_false, nth, setN, at?, oSub, oMul, oDiv, oMod, uNeg, oCmpI, oLt, oLe, oGt, oGe, subS, setAll, bInt, bDivmod, bAbs, bMax2, truM, isTys, isTy, Bool.or_false, Bool.false_or, Bool.true_or, Bool.or_true, Bool.and_true, Bool.true_and, Bool.and_false, Bool.false_and, Bool.not_true, Bool.not_false, eq_str, eq_int, ne_str, ne_int, nat_beq, Int.reduceEq, Int.reduceLT, Int.reduceLE, decide_true, decide_false, reduceCtorEq, lk], .refl⟩
      | cons x r =>
        obtain ⟨h0, rfl, ni⟩ := n.items
        obtain ⟨nx, nr⟩ := ni.uncons
        have l0 : decide (((r.length + 1 : Nat) : Int) = 0) = false := decide_eq_false (by omega)
        cases nx.form with
        | lst b l g => exact ⟨m, by simp only [c__law_look, of_some, v_lit, v_var, v_nil, v_dct0, v_none, x_nil, x_cont, y_nm, y_nil, g_bin20, e_bin1, g_bin10, e_un1, g_un10, g_cons20, e_cons1, g_cons10, g_tup20, e_tup1, g_tup10, g_lst20, e_lst1, g_lst10, g_fun20, e_fun1, g_fun10, g_key20, e_key1, g_key10, e_ap1, g_ap10, e_pick, g_pick0, g_pick1, g_pick2, g_pick3, e_sif, e_and1, g_and10, g_and11, e_or1, g_or10, g_or11, e_not1, g_not, g_chain40, g_chain30, g_chain31, g_chain20, e_chain1, g_chain10, e_val1, g_val, e_tru1, g_tru10, e_tand, g_tand0, g_tand1, e_tor, g_tor0, g_tor1, e_tnot, g_tnot, g_isi2, e_isi1, g_isi10, g_sl30, g_sl20, e_sl1, g_sl10, e_part1, g_part10, g_meA0, e_me0, g_me00, g_meB0, e_me1, g_me10, e_seq1, g_seq10, g_seq11, g_seq12, e_ret1, g_ret10, e_expr1, g_expr10, g_asg20, e_asg1, g_asg10, g_par20, e_par1, g_par10, e_gtup, g_gtup0, e_gs1, g_gs10, g_sub20, e_sub1, g_sub10, g_run10, g_run11, add_ii, ixt0, ixt1, ixt2, len_t0, len_t1, len_t2, len_t3, mkS, List.map_cons, List.map_nil, List.replicate, List.cons_append, List.nil_append, List.length_cons, List.length_nil, Nat.zero_add, Nat.reduceAdd, Nat.reduceBEq, Nat.beq, cond_true, cond_false, nth, setN, at?, oSub, oMul, oDiv, oMod, uNeg, oCmpI, oLt, oLe, oGt, oGe, subS, setAll, bInt, bDivmod, bAbs, bMax2, truM, isTys, isTy, Bool.or_false, Bool.false_or, Bool.true_or, Bool.or_true, Bool.and_true, Bool.true_and, Bool.and_false, Bool.false_and, Bool.not_true, Bool.not_false, eq_str, eq_int, ne_str, ne_int, nat_beq, Int.reduceEq, Int.reduceLT, Int.reduceLE, decide_true, decide_false, reduceCtorEq, g, lk, len_t, l0], .refl⟩
        | non => exact ⟨m, by simp only [c__law_look, of_some, v_lit, v_var, v_nil, v_dct0, v_none, x_nil, x_cont, y_nm, y_nil, g_bin20, e_bin1, g_bin10, e_un1, g_un10, g_cons20, e_cons1, g_cons10, g_tup20, e_tup1, g_tup10, g_lst20, e_lst1, g_lst10, g_fun20, e_fun1, g_fun10, g_key20, e_key1, g_key10, e_ap1, g_ap10, e_pick, g_pick0, g_pick1, g_pick2, g_pick3, e_sif, e_and1, g_and10, g_and11, e_or1, g_or10, g_or11, e_not1, g_not, g_chain40, g_chain30, g_chain31, g_chain20, e_chain1, g_chain10, e_val1, g_val, e_tru1, g_tru10, e_tand, g_tand0, g_tand1, e_tor, g_tor0, g_tor1, e_tnot, g_tnot, g_isi2, e_isi1, g_isi10, g_sl30, g_sl20, e_sl1, g_sl10, e_part1, g_part10, g_meA0, e_me0, g_me00, g_meB0, e_me1, g_me10, e_seq1, g_seq10, g_seq11, g_seq12, e_ret1, g_ret10, e_expr1, g_expr10, g_asg20, e_asg1, g_asg10, g_par20, e_par1, g_par10, e_gtup, g_gtup0, e_gs1, g_gs10, g_sub20, e_sub1, g_sub10, g_run10, g_run11, add_ii, ixt0, ixt1, ixt2, len_t0, len_t1, len_t2, len_t3, mkS, List.map_cons, List.map_nil, List.replicate, List.cons_append, List.nil_append, List.length_cons, List.length_nil, Nat.zero_add, Nat.reduceAdd, Nat.reduceBEq, Nat.beq, cond_true, cond_false, nth, setN, at?, oSub, oMul, oDiv, oMod, uNeg, oCmpI, oLt, oLe, oGt, oGe, subS, setAll, bInt, bDivmod, bAbs, bMax2, truM, isTys, isTy, Bool.or_false, Bool.false_or, Bool.true_or, Bool.or_true, Bool.and_true, Bool.true_and, Bool.and_false, Bool.false_and, Bool.not_true, Bool.not_false, eq_str, eq_int, ne_str, ne_int, nat_beq, Int.reduceEq, Int.reduceLT, Int.reduceLE, decide_true, decide_false, reduceCtorEq, lk, len_t, l0], .refl⟩
        | bl b => exact ⟨m, by simp only [c__law_look, of_some, v_lit, v_var, v_nil, v_dct0, v_none, x_nil, x_cont, y_nm, y_nil, g_bin20, e_bin1, g_bin10, e_un1, g_un10, g_cons20, e_cons1, g_cons10, g_tup20, e_tup1, g_tup10, g_lst20, e_lst1, g_lst10, g_fun20, e_fun1, g_fun10, g_key20, e_key1, g_key10, e_ap1, g_ap10, e_pick, g_pick0, g_pick1, g_pick2, g_pick3, e_sif, e_and1, g_and10, g_and11, e_or1, g_or10, g_or11, e_not1, g_not, g_chain40, g_chain30, g_chain31, g_chain20, e_chain1, g_chain10, e_val1, g_val, e_tru1, g_tru10, e_tand, g_tand0, g_tand1, e_tor, g_tor0, g_tor1, e_tnot, g_tnot, g_isi2, e_isi1, g_isi10, g_sl30, g_sl20, e_sl1, g_sl10, e_part1, g_part10, g_meA0, e_me0, g_me00, g_meB0, e_me1, g_me10, e_seq1, g_seq10, g_seq11, g_seq12, e_ret1, g_ret10, e_expr1, g_expr10, g_asg20, e_asg1, g_asg10, g_par20, e_par1, g_par10, e_gtup, g_gtup0, e_gs1, g_gs10, g_sub20, e_sub1, g_sub10, g_run10, g_run11, add_ii, ixt0, ixt1, ixt2, len_t0, len_t1, len_t2, len_t3, mkS, List.map_cons, List.map_nil, List.replicate, List.cons_append, List.nil_append, List.length_cons, List.length_nil, Nat.zero_add, Nat.reduceAdd, Nat.reduceBEq, Nat.beq, cond_true, cond_false, nth, setN, at?, oSub, oMul, oDiv, oMod, uNeg, oCmpI, oLt, oLe, oGt, oGe, subS, setAll, bInt, bDivmod, bAbs, bMax2, truM, isTys, isTy, Bool.or_false, Bool.false_or, Bool.true_or, Bool.or_true, Bool.and_true, Bool.true_and, Bool.and_false, Bool.false_and, Bool.not_true, Bool.not_false, eq_str, eq_int, ne_str, ne_int, nat_beq, Int.reduceEq, Int.reduceLT, Int.reduceLE, decide_true, decide_false, reduceCtorEq, lk, len_t, l0], .refl⟩
        | int i => exact ⟨m, by simp only [c__law_look, of_some, v_lit, v_var, v_nil, v_dct0, v_none, x_nil, x_cont, y_nm, y_nil, g_bin20, e_bin1, g_bin10, e_un1, g_un10, g_cons20, e_cons1, g_cons10, g_tup20, e_tup1, g_tup10, g_lst20, e_lst1, g_lst10, g_fun20, e_fun1, g_fun10, g_key20, e_key1, g_key10, e_ap1, g_ap10, e_pick, g_pick0, g_pick1, g_pick2, g_pick3, e_sif, e_and1, g_and10, g_and11, e_or1, g_or10, g_or11, e_not1, g_not, g_chain40, g_chain30, g_chain31, g_chain20, e_chain1, g_chain10, e_val1, g_val, e_tru1, g_tru10, e_tand, g_tand0, g_tand1, e_tor, g_tor0, g_tor1, e_tnot, g_tnot, g_isi2, e_isi1, g_isi10, g_sl30, g_sl20, e_sl1, g_sl10, e_part1, g_part10, g_meA0, e_me0, g_me00, g_meB0, e_me1, g_me10, e_seq1, g_seq10, g_seq11, g_seq12, e_ret1, g_ret10, e_expr1, g_expr10, g_asg20, e_asg1, g_asg10, g_par20, e_par1, g_par10, e_gtup, g_gtup0, e_gs1, g_gs10, g_sub20, e_sub1, g_sub10, g_run10, g_run11, add_ii, ixt0, ixt1, ixt2, len_t0, len_t1, len_t2, len_t3, mkS, List.map_cons, List.map_nil, List.replicate, List.cons_append, List.nil_append, List.length_cons, List.length_nil, Nat.zero_add, Nat.reduceAdd, Nat.reduceBEq, Nat.beq, cond_true, cond_false, nth, setN, at?, oSub, oMul, oDiv, oMod, uNeg, oCmpI, oLt, oLe, oGt, oGe, subS, setAll, bInt, bDivmod, bAbs, bMax2, truM, isTys, isTy, Bool.or_false, Bool.false_or, Bool.true_or, Bool.or_true, Bool.and_true, Bool.true_and, Bool.and_false, Bool.false_and, Bool.not_true, Bool.not_false, eq_str, eq_int, ne_str, ne_int, nat_beq, Int.reduceEq, Int.reduceLT, Int.reduceLE, decide_true, decide_false, reduceCtorEq, lk, len_t, l0], .refl⟩
        | tup l => exact ⟨m, by simp only [c__law_look, of_some, v_lit, v_var, v_nil, v_dct0, v_none, x_nil, x_cont, y_nm, y_nil, g_bin20, e_bin1, g_bin10, e_un1, g_un10, g_cons20, e_cons1, g_cons10, g_tup20, e_tup1, g_tup10, g_lst20, e_lst1, g_lst10, g_fun20, e_fun1, g_fun10, g_key20, e_key1, g_key10, e_ap1, g_ap10, e_pick, g_pick0, g_pick1, g_pick2, g_pick3, e_sif, e_and1, g_and10, g_and11, e_or1, g_or10, g_or11, e_not1, g_not, g_chain40, g_chain30, g_chain31, g_chain20, e_chain1, g_chain10, e_val1, g_val, e_tru1, g_tru10, e_tand, g_tand0, g_tand1, e_tor, g_tor0, g_tor1, e_tnot, g_tnot, g_isi2, e_isi1, g_isi10, g_sl30, g_sl20, e_sl1, g_sl10, e_part1, g_part10, g_meA0, e_me0, g_me00, g_meB0, e_me1, g_me10, e_seq1, g_seq10, g_seq11, g_seq12, e_ret1, g_ret10, e_expr1, g_expr10, g_asg20, e_asg1, g_asg10, g_par20, e_par1, g_par10, e_gtup, g_gtup0, e_gs1, g_gs10, g_sub20, e_sub1, g_sub10, g_run10, g_run11, add_ii, ixt0, ixt1, ixt2, len_t0, len_t1, len_t2, len_t3, mkS, List.map_cons, List.map_nil, List.replicate, List.cons_append, List.nil_append, List.length_cons, List.length_nil, Nat.zero_add, Nat.reduceAdd, Nat.reduceBEq, Nat.beq, cond_true, cond_false, nth, setN, at?, oSub, oMul, oDiv, oMod, uNeg, oCmpI, oLt, oLe, oGt, oGe, subS, setAll, bInt, bDivmod, bAbs, bMax2, truM, isTys, isTy, Bool.or_false, Bool.false_or, Bool.true_or, Bool.or_true, Bool.and_true, Bool.true_and, Bool.and_false, Bool.false_and, Bool.not_true, Bool.not_false, eq_str, eq_int, ne_str, ne_int, nat_beq, Int.reduceEq, Int.reduceLT, Int.reduceLE, decide_true, decide_false, reduceCtorEq, lk, len_t, l0], .refl⟩
        | str s =>
          cases q2 : strEq s "one" with
          | true =>
            have q1 := letter_one q2
            cases r with
            | nil => exact ⟨m, by simp only [c__law_look, of_some, v_lit, v_var, v_nil, v_dct0, v_none, x_nil, x_cont, y_nm, y_nil, g_bin20, e_bin1, g_bin10, e_un1, g_un10, g_cons20, e_cons1, g_cons10, g_tup20, e_tup1, g_tup10, g_lst20, e_lst1, g_lst10, g_fun20, e_fun1, g_fun10, g_key20, e_key1, g_key10, e_ap1, g_ap10, e_pick, g_pick0, g_pick1, g_pick2, g_pick3, e_sif, e_and1, g_and10, g_and11, e_or1, g_or10, g_or11, e_not1, g_not, g_chain40, g_chain30, g_chain31, g_chain20, e_chain1, g_chain10, e_val1, g_val, e_tru1, g_tru10, e_tand, g_tand0, g_tand1, e_tor, g_tor0, g_tor1, e_tnot, g_tnot, g_isi2, e_isi1, g_isi10, g_sl30, g_sl20, e_sl1, g_sl10, e_part1, g_part10, g_meA0, e_me0, g_me00, g_meB0, e_me1, g_me10, e_seq1, g_seq10, g_seq11, g_seq12, e_ret1, g_ret10, e_expr1, g_expr10, g_asg20, e_asg1, g_asg10, g_par20, e_par1, g_par10, e_gtup, g_gtup0, e_gs1, g_gs10, g_sub20, e_sub1, g_sub10, g_run10, g_run11, add_ii, ixt0, ixt1, ixt2, len_t0, len_t1, len_t2, len_t3, mkS, List.map_cons, List.map_nil, List.replicate, List.cons_append, List.nil_append, List.length_cons, List.length_nil, Nat.zero_add, Nat.reduceAdd, Nat.reduceBEq, Nat.beq, cond_true, cond_false, nth, setN, at?, oSub, oMul, oDiv, oMod, uNeg, oCmpI, oLt, oLe, oGt, oGe, subS, setAll, bInt, bDivmod, bAbs, bMax2, truM, isTys, isTy, Bool.or_false, Bool.false_or, Bool.true_or, Bool.or_true, Bool.and_true, Bool.true_and, Bool.and_false, Bool.false_and, Bool.not_true, Bool.not_false, eq_str, eq_int, ne_str, ne_int, nat_beq, Int.reduceEq, Int.reduceLT, Int.reduceLE, decide_true, decide_false, reduceCtorEq, q1, q2, lk, List.isEmpty], .refl⟩
            | cons y t => cases t with
              | nil => exact ⟨m, by simp only [c__law_look, of_some, v_lit, v_var, v_nil, v_dct0, v_none, x_nil, x_cont, y_nm, y_nil, g_bin20, e_bin1, g_bin10, e_un1, g_un10, g_cons20, e_cons1, g_cons10, g_tup20, e_tup1, g_tup10, g_lst20, e_lst1, g_lst10, g_fun20, e_fun1, g_fun10, g_key20, e_key1, g_key10, e_ap1, g_ap10, e_pick, g_pick0, g_pick1, g_pick2, g_pick3, e_sif, e_and1, g_and10, g_and11, e_or1, g_or10, g_or11, e_not1, g_not, g_chain40, g_chain30, g_chain31, g_chain20, e_chain1, g_chain10, e_val1, g_val, e_tru1, g_tru10, e_tand, g_tand0, g_tand1, e_tor, g_tor0, g_tor1, e_tnot, g_tnot, g_isi2, e_isi1, g_isi10, g_sl30, g_sl20, e_sl1, g_sl10, e_part1, g_part10, g_meA0, e_me0, g_me00, g_meB0, e_me1, g_me10, e_seq1, g_seq10, g_seq11, g_seq12, e_ret1, g_ret10, e_expr1, g_expr10, g_asg20, e_asg1, g_asg10, g_par20, e_par1, g_par10, e_gtup, g_gtup0, e_gs1, g_gs10, g_sub20, e_sub1, g_sub10, g_run10, g_run11, add_ii, ixt0, ixt1, ixt2, len_t0, len_t1, len_t2, len_t3, mkS, List.map_cons, List.map_nil, List.replicate, List.cons_append, List.nil_append, List.length_cons, List.length_nil, Nat.zero_add, Nat.reduceAdd, Nat.reduceBEq, Nat.beq, cond_true, cond_false, nth, setN, at?, oSub, oMul, oDiv, oMod, uNeg, oCmpI, oLt, oLe, oGt, oGe, subS, setAll, bInt, bDivmod, bAbs, bMax2, truM, isTys, isTy, Bool.or_false, Bool.false_or, Bool.true_or, Bool.or_true, Bool.and_true, Bool.true_and, Bool.and_false, Bool.false_and, Bool.not_true, Bool.not_false, eq_str, eq_int, ne_str, ne_int, nat_beq, Int.reduceEq, Int.reduceLT, Int.reduceLE, decide_true, decide_false, reduceCtorEq, q1, q2, lk, List.isEmpty], .refl⟩
              | cons y2 t => cases t with
                | nil => exact ⟨m, by simp only [c__law_look, of_some, v_lit, v_var, v_nil, v_dct0, v_none, x_nil, x_cont, y_nm, y_nil, g_bin20, e_bin1, g_bin10, e_un1, g_un10, g_cons20, e_cons1, g_cons10, g_tup20, e_tup1, g_tup10, g_lst20, e_lst1, g_lst10, g_fun20, e_fun1, g_fun10, g_key20, e_key1, g_key10, e_ap1, g_ap10, e_pick, g_pick0, g_pick1, g_pick2, g_pick3, e_sif, e_and1, g_and10, g_and11, e_or1, g_or10, g_or11, e_not1, g_not, g_chain40, g_chain30, g_chain31, g_chain20, e_chain1, g_chain10, e_val1, g_val, e_tru1, g_tru10, e_tand, g_tand0, g_tand1, e_tor, g_tor0, g_tor1, e_tnot, g_tnot, g_isi2, e_isi1, g_isi10, g_sl30, g_sl20, e_sl1, g_sl10, e_part1, g_part10, g_meA0, e_me0, g_me00, g_meB0, e_me1, g_me10, e_seq1, g_seq10, g_seq11, g_seq12, e_ret1, g_ret10, e_expr1, g_expr10, g_asg20, e_asg1, g_asg10, g_par20, e_par1, g_par10, e_gtup, g_gtup0, e_gs1, g_gs10, g_sub20, e_sub1, g_sub10, g_run10, g_run11, add_ii, ixt0, ixt1, ixt2, len_t0, len_t1, len_t2, len_t3, mkS, List.map_cons, List.map_nil, List.replicate, List.cons_append, List.nil_append, List.length_cons, List.length_nil, Nat.zero_add, Nat.reduceAdd, Nat.reduceBEq, Nat.beq, cond_true, cond_false, nth, setN, at?, oSub, oMul, oDiv, oMod, uNeg, oCmpI, oLt, oLe, oGt, oGe, subS, setAll, bInt, bDivmod, bAbs, bMax2, truM, isTys, isTy, Bool.or_false, Bool.false_or, Bool.true_or, Bool.or_true, Bool.and_true, Bool.true_and, Bool.and_false, Bool.false_and, Bool.not_true, Bool.not_false, eq_str, eq_int, ne_str, ne_int, nat_beq, Int.reduceEq, Int.reduceLT, Int.reduceLE, decide_true, decide_false, reduceCtorEq, q1, q2, lk, List.isEmpty], .refl⟩
                | cons y3 t =>
                  have l2 := len_t4 (x := .str s) (y := y) (z := y2) (v := y3) (l := t) (k := 1) (by decide)
                  simp only [List.length_cons] at l2 l0
                  exact ⟨m, by simp only [c__law_look, of_some, v_lit, v_var, v_nil, v_dct0, v_none, x_nil, x_cont, y_nm, y_nil, g_bin20, e_bin1, g_bin10, e_un1, g_un10, g_cons20, e_cons1, g_cons10, g_tup20, e_tup1, g_tup10, g_lst20, e_lst1, g_lst10, g_fun20, e_fun1, g_fun10, g_key20, e_key1, g_key10, e_ap1, g_ap10, e_pick, g_pick0, g_pick1, g_pick2, g_pick3, e_sif, e_and1, g_and10, g_and11, e_or1, g_or10, g_or11, e_not1, g_not, g_chain40, g_chain30, g_chain31, g_chain20, e_chain1, g_chain10, e_val1, g_val, e_tru1, g_tru10, e_tand, g_tand0, g_tand1, e_tor, g_tor0, g_tor1, e_tnot, g_tnot, g_isi2, e_isi1, g_isi10, g_sl30, g_sl20, e_sl1, g_sl10, e_part1, g_part10, g_meA0, e_me0, g_me00, g_meB0, e_me1, g_me10, e_seq1, g_seq10, g_seq11, g_seq12, e_ret1, g_ret10, e_expr1, g_expr10, g_asg20, e_asg1, g_asg10, g_par20, e_par1, g_par10, e_gtup, g_gtup0, e_gs1, g_gs10, g_sub20, e_sub1, g_sub10, g_run10, g_run11, add_ii, ixt0, ixt1, ixt2, len_t0, len_t1, len_t2, len_t3, mkS, List.map_cons, List.map_nil, List.replicate, List.cons_append, List.nil_append, List.length_cons, List.length_nil, Nat.zero_add, Nat.reduceAdd, Nat.reduceBEq, Nat.beq, cond_true, cond_false, nth, setN, at?, oSub, oMul, oDiv, oMod, uNeg, oCmpI, oLt, oLe, oGt, oGe, subS, setAll, bInt, bDivmod, bAbs, bMax2, truM, isTys, isTy, Bool.or_false, Bool.false_or, Bool.true_or, Bool.or_true, Bool.and_true, Bool.true_and, Bool.and_false, Bool.false_and, Bool.not_true, Bool.not_false, eq_str, eq_int, ne_str, ne_int, nat_beq, Int.reduceEq, Int.reduceLT, Int.reduceLE, decide_true, decide_false, reduceCtorEq, q1, q2, lk, List.isEmpty, len_t, l0, l2], .refl⟩
          | false =>
            cases q1 : strEq s "letter" with
            | true =>
              cases r with
              | nil => exact ⟨m, by simp only [c__law_look, of_some, v_lit, v_var, v_nil, v_dct0, v_none, x_nil, x_cont, y_nm, y_nil, g_bin20, e_bin1, g_bin10, e_un1, g_un10, g_cons20, e_cons1, g_cons10, g_tup20, e_tup1, g_tup10, g_lst20, e_lst1, g_lst10, g_fun20, e_fun1, g_fun10, g_key20, e_key1, g_key10, e_ap1, g_ap10, e_pick, g_pick0, g_pick1, g_pick2, g_pick3, e_sif, e_and1, g_and10, g_and11, e_or1, g_or10, g_or11, e_not1, g_not, g_chain40, g_chain30, g_chain31, g_chain20, e_chain1, g_chain10, e_val1, g_val, e_tru1, g_tru10, e_tand, g_tand0, g_tand1, e_tor, g_tor0, g_tor1, e_tnot, g_tnot, g_isi2, e_isi1, g_isi10, g_sl30, g_sl20, e_sl1, g_sl10, e_part1, g_part10, g_meA0, e_me0, g_me00, g_meB0, e_me1, g_me10, e_seq1, g_seq10, g_seq11, g_seq12, e_ret1, g_ret10, e_expr1, g_expr10, g_asg20, e_asg1, g_asg10, g_par20, e_par1, g_par10, e_gtup, g_gtup0, e_gs1, g_gs10, g_sub20, e_sub1, g_sub10, g_run10, g_run11, add_ii, ixt0, ixt1, ixt2, len_t0, len_t1, len_t2, len_t3, mkS, List.map_cons, List.map_nil, List.replicate, List.cons_append, List.nil_append, List.length_cons, List.length_nil, Nat.zero_add, Nat.reduceAdd, Nat.reduceBEq, Nat.beq, cond_true, cond_false, nth, setN, at?, oSub, oMul, oDiv, oMod, uNeg, oCmpI, oLt, oLe, oGt, oGe, subS, setAll, bInt, bDivmod, bAbs, bMax2, truM, isTys, isTy, Bool.or_false, Bool.false_or, Bool.true_or, Bool.or_true, Bool.and_true, Bool.true_and, Bool.and_false, Bool.false_and, Bool.not_true, Bool.not_false, eq_str, eq_int, ne_str, ne_int, nat_beq, Int.reduceEq, Int.reduceLT, Int.reduceLE, decide_true, decide_false, reduceCtorEq, q1, q2, lk, List.isEmpty], .refl⟩
              | cons y t => cases t with
                | nil =>
                  cases nr.uncons.1.form with
                  | int i =>
                    cases q3 : decide (0 ≤ i) with
                    | true => exact ⟨m, by simp only [c__law_look, of_some, v_lit, v_var, v_nil, v_dct0, v_none, x_nil, x_cont, y_nm, y_nil, g_bin20, e_bin1, g_bin10, e_un1, g_un10, g_cons20, e_cons1, g_cons10, g_tup20, e_tup1, g_tup10, g_lst20, e_lst1, g_lst10, g_fun20, e_fun1, g_fun10, g_key20, e_key1, g_key10, e_ap1, g_ap10, e_pick, g_pick0, g_pick1, g_pick2, g_pick3, e_sif, e_and1, g_and10, g_and11, e_or1, g_or10, g_or11, e_not1, g_not, g_chain40, g_chain30, g_chain31, g_chain20, e_chain1, g_chain10, e_val1, g_val, e_tru1, g_tru10, e_tand, g_tand0, g_tand1, e_tor, g_tor0, g_tor1, e_tnot, g_tnot, g_isi2, e_isi1, g_isi10, g_sl30, g_sl20, e_sl1, g_sl10, e_part1, g_part10, g_meA0, e_me0, g_me00, g_meB0, e_me1, g_me10, e_seq1, g_seq10, g_seq11, g_seq12, e_ret1, g_ret10, e_expr1, g_expr10, g_asg20, e_asg1, g_asg10, g_par20, e_par1, g_par10, e_gtup, g_gtup0, e_gs1, g_gs10, g_sub20, e_sub1, g_sub10, g_run10, g_run11, add_ii, ixt0, ixt1, ixt2, len_t0, len_t1, len_t2, len_t3, mkS, List.map_cons, List.map_nil, List.replicate, List.cons_append, List.nil_append, List.length_cons, List.length_nil, Nat.zero_add, Nat.reduceAdd, Nat.reduceBEq, Nat.beq, cond_true, cond_false, nth, setN, at?, oSub, oMul, oDiv, oMod, uNeg, oCmpI, oLt, oLe, oGt, oGe, subS, setAll, bInt, bDivmod, bAbs, bMax2, truM, isTys, isTy, Bool.or_false, Bool.false_or, Bool.true_or, Bool.or_true, Bool.and_true, Bool.true_and, Bool.and_false, Bool.false_and, Bool.not_true, Bool.not_false, eq_str, eq_int, ne_str, ne_int, nat_beq, Int.reduceEq, Int.reduceLT, Int.reduceLE, decide_true, decide_false, reduceCtorEq, q1, q2, lk, List.isEmpty, q3], .refl⟩
                    | false => exact ⟨m, by simp only [c__law_look, of_some, v_lit, v_var, v_nil, v_dct0, v_none, x_nil, x_cont, y_nm, y_nil, g_bin20, e_bin1, g_bin10, e_un1, g_un10, g_cons20, e_cons1, g_cons10, g_tup20, e_tup1, g_tup10, g_lst20, e_lst1, g_lst10, g_fun20, e_fun1, g_fun10, g_key20, e_key1, g_key10, e_ap1, g_ap10, e_pick, g_pick0, g_pick1, g_pick2, g_pick3, e_sif, e_and1, g_and10, g_and11, e_or1, g_or10, g_or11, e_not1, g_not, g_chain40, g_chain30, g_chain31, g_chain20, e_chain1, g_chain10, e_val1, g_val, e_tru1, g_tru10, e_tand, g_tand0, g_tand1, e_tor, g_tor0, g_tor1, e_tnot, g_tnot, g_isi2, e_isi1, g_isi10, g_sl30, g_sl20, e_sl1, g_sl10, e_part1, g_part10, g_meA0, e_me0, g_me00, g_meB0, e_me1, g_me10, e_seq1, g_seq10, g_seq11, g_seq12, e_ret1, g_ret10, e_expr1, g_expr10, g_asg20, e_asg1, g_asg10, g_par20, e_par1, g_par10, e_gtup, g_gtup0, e_gs1, g_gs10, g_sub20, e_sub1, g_sub10, g_run10, g_run11, add_ii, ixt0, ixt1, ixt2, len_t0, len_t1, len_t2, len_t3, mkS, List.map_cons, List.map_nil, List.replicate, List.cons_append, List.nil_append, List.length_cons, List.length_nil, Nat.zero_add, Nat.reduceAdd, Nat.reduceBEq, Nat.beq, cond_true, cond_false, nth, setN, at?, oSub, oMul, oDiv, oMod, uNeg, oCmpI, oLt, oLe, oGt, oGe, subS, setAll, bInt, bDivmod, bAbs, bMax2, truM, isTys, isTy, Bool.or_false, Bool.false_or, Bool.true_or, Bool.or_true, Bool.and_true, Bool.true_and, Bool.and_false, Bool.false_and, Bool.not_true, Bool.not_false, eq_str, eq_int, ne_str, ne_int, nat_beq, Int.reduceEq, Int.reduceLT, Int.reduceLE, decide_true, decide_false, reduceCtorEq, q1, q2, lk, List.isEmpty, q3], .refl⟩
                  | lst b l g => exact ⟨m, by simp only [c__law_look, of_some, v_lit, v_var, v_nil, v_dct0, v_none, x_nil, x_cont, y_nm, y_nil, g_bin20, e_bin1, g_bin10, e_un1, g_un10, g_cons20, e_cons1, g_cons10, g_tup20, e_tup1, g_tup10, g_lst20, e_lst1, g_lst10, g_fun20, e_fun1, g_fun10, g_key20, e_key1, g_key10, e_ap1, g_ap10, e_pick, g_pick0, g_pick1, g_pick2, g_pick3, e_sif, e_and1, g_and10, g_and11, e_or1, g_or10, g_or11, e_not1, g_not, g_chain40, g_chain30, g_chain31, g_chain20, e_chain1, g_chain10, e_val1, g_val, e_tru1, g_tru10, e_tand, g_tand0, g_tand1, e_tor, g_tor0, g_tor1, e_tnot, g_tnot, g_isi2, e_isi1, g_isi10, g_sl30, g_sl20, e_sl1, g_sl10, e_part1, g_part10, g_meA0, e_me0, g_me00, g_meB0, e_me1, g_me10, e_seq1, g_seq10, g_seq11, g_seq12, e_ret1, g_ret10, e_expr1, g_expr10, g_asg20, e_asg1, g_asg10, g_par20, e_par1, g_par10, e_gtup, g_gtup0, e_gs1, g_gs10, g_sub20, e_sub1, g_sub10, g_run10, g_run11, add_ii, ixt0, ixt1, ixt2, len_t0, len_t1, len_t2, len_t3, mkS, List.map_cons, List.map_nil, List.replicate, List.cons_append, List.nil_append, List.length_cons, List.length_nil, Nat.zero_add, Nat.reduceAdd, Nat.reduceBEq, Nat.beq, cond_true, cond_false, nth, setN, at?, oSub, oMul, oDiv, oMod, uNeg, oCmpI, oLt, oLe, oGt, oGe, subS, setAll, bInt, bDivmod, bAbs, bMax2, truM, isTys, isTy, Bool.or_false, Bool.false_or, Bool.true_or, Bool.or_true, Bool.and_true, Bool.true_and, Bool.and_false, Bool.false_and, Bool.not_true, Bool.not_false, eq_str, eq_int, ne_str, ne_int, nat_beq, Int.reduceEq, Int.reduceLT, Int.reduceLE, decide_true, decide_false, reduceCtorEq, q1, q2, lk, List.isEmpty, g], .refl⟩
                  | _ => exact ⟨m, by simp only [c__law_look, of_some, v_lit, v_var, v_nil, v_dct0, v_none, x_nil, x_cont, y_nm, y_nil, g_bin20, e_bin1, g_bin10, e_un1, g_un10, g_cons20, e_cons1, g_cons10, g_tup20, e_tup1, g_tup10, g_lst20, e_lst1, g_lst10, g_fun20, e_fun1, g_fun10, g_key20, e_key1, g_key10, e_ap1, g_ap10, e_pick, g_pick0, g_pick1, g_pick2, g_pick3, e_sif, e_and1, g_and10, g_and11, e_or1, g_or10, g_or11, e_not1, g_not, g_chain40, g_chain30, g_chain31, g_chain20, e_chain1, g_chain10, e_val1, g_val, e_tru1, g_tru10, e_tand, g_tand0, g_tand1, e_tor, g_tor0, g_tor1, e_tnot, g_tnot, g_isi2, e_isi1, g_isi10, g_sl30, g_sl20, e_sl1, g_sl10, e_part1, g_part10, g_meA0, e_me0, g_me00, g_meB0, e_me1, g_me10, e_seq1, g_seq10, g_seq11, g_seq12, e_ret1, g_ret10, e_expr1, g_expr10, g_asg20, e_asg1, g_asg10, g_par20, e_par1, g_par10, e_gtup, g_gtup0, e_gs1, g_gs10, g_sub20, e_sub1, g_sub10, g_run10, g_run11, add_ii, ixt0, ixt1, ixt2, len_t0, len_t1, len_t2, len_t3, mkS, List.map_cons, List.map_nil, List.replicate, List.cons_append, List.nil_append, List.length_cons, List.length_nil, Nat.zero_add, Nat.reduceAdd, Nat.reduceBEq, Nat.beq, cond_true, cond_false, nth, setN, at?, oSub, oMul, oDiv, oMod, uNeg, oCmpI, oLt, oLe, oGt, oGe, subS, setAll, bInt, bDivmod, bAbs, bMax2, truM, isTys, isTy, Bool.or_false, Bool.false_or, Bool.true_or, Bool.or_true, Bool.and_true, Bool.true_and, Bool.and_false, Bool.false_and, Bool.not_true, Bool.not_false, eq_str, eq_int, ne_str, ne_int, nat_beq, Int.reduceEq, Int.reduceLT, Int.reduceLE, decide_true, decide_false, reduceCtorEq, q1, q2, lk, List.isEmpty], .refl⟩
                | cons y2 t => cases t with
                  | nil => exact ⟨m, by simp only [c__law_look, of_some, v_lit, v_var, v_nil, v_dct0, v_none, x_nil, x_cont, y_nm, y_nil, g_bin20, e_bin1, g_bin10, e_un1, g_un10, g_cons20, e_cons1, g_cons10, g_tup20, e_tup1, g_tup10, g_lst20, e_lst1, g_lst10, g_fun20, e_fun1, g_fun10, g_key20, e_key1, g_key10, e_ap1, g_ap10, e_pick, g_pick0, g_pick1, g_pick2, g_pick3, e_sif, e_and1, g_and10, g_and11, e_or1, g_or10, g_or11, e_not1, g_not, g_chain40, g_chain30, g_chain31, g_chain20, e_chain1, g_chain10, e_val1, g_val, e_tru1, g_tru10, e_tand, g_tand0, g_tand1, e_tor, g_tor0, g_tor1, e_tnot, g_tnot, g_isi2, e_isi1, g_isi10, g_sl30, g_sl20, e_sl1, g_sl10, e_part1, g_part10, g_meA0, e_me0, g_me00, g_meB0, e_me1, g_me10, e_seq1, g_seq10, g_seq11, g_seq12, e_ret1, g_ret10, e_expr1, g_expr10, g_asg20, e_asg1, g_asg10, g_par20, e_par1, g_par10, e_gtup, g_gtup0, e_gs1, g_gs10, g_sub20, e_sub1, g_sub10, g_run10, g_run11, add_ii, ixt0, ixt1, ixt2, len_t0, len_t1, len_t2, len_t3, mkS, List.map_cons, List.map_nil, List.replicate, List.cons_append, List.nil_append, List.length_cons, List.length_nil, Nat.zero_add, Nat.reduceAdd, Nat.reduceBEq, Nat.beq, cond_true, cond_false, nth, setN, at?, oSub, oMul, oDiv, oMod, uNeg, oCmpI, oLt, oLe, oGt, oGe, subS, setAll, bInt, bDivmod, bAbs, bMax2, truM, isTys, isTy, Bool.or_false, Bool.false_or, Bool.true_or, Bool.or_true, Bool.and_true, Bool.true_and, Bool.and_false, Bool.false_and, Bool.not_true, Bool.not_false, eq_str, eq_int, ne_str, ne_int, nat_beq, Int.reduceEq, Int.reduceLT, Int.reduceLE, decide_true, decide_false, reduceCtorEq, q1, q2, lk, List.isEmpty], .refl⟩
                  | cons y3 t =>
                    have l2 := len_t4 (x := .str s) (y := y) (z := y2) (v := y3) (l := t) (k := 2) (by decide)
                    simp only [List.length_cons] at l2 l0
                    exact ⟨m, by simp only [c__law_look, of_some, v_lit, v_var, v_nil, v_dct0, v_none, x_nil, x_cont, y_nm, y_nil, g_bin20, e_bin1, g_bin10, e_un1, g_un10, g_cons20, e_cons1, g_cons10, g_tup20, e_tup1, g_tup10, g_lst20, e_lst1, g_lst10, g_fun20, e_fun1, g_fun10, g_key20, e_key1, g_key10, e_ap1, g_ap10, e_pick, g_pick0, g_pick1, g_pick2, g_pick3, e_sif, e_and1, g_and10, g_and11, e_or1, g_or10, g_or11, e_not1, g_not, g_chain40, g_chain30, g_chain31, g_chain20, e_chain1, g_chain10, e_val1, g_val, e_tru1, g_tru10, e_tand, g_tand0, g_tand1, e_tor, g_tor0, g_tor1, e_tnot, g_tnot, g_isi2, e_isi1, g_isi10, g_sl30, g_sl20, e_sl1, g_sl10, e_part1, g_part10, g_meA0, e_me0, g_me00, g_meB0, e_me1, g_me10, e_seq1, g_seq10, g_seq11, g_seq12, e_ret1, g_ret10, e_expr1, g_expr10, g_asg20, e_asg1, g_asg10, g_par20, e_par1, g_par10, e_gtup, g_gtup0, e_gs1, g_gs10, g_sub20, e_sub1, g_sub10, g_run10, g_run11, add_ii, ixt0, ixt1, ixt2, len_t0, len_t1, len_t2, len_t3, mkS, List.map_cons, List.map_nil, List.replicate, List.cons_append, List.nil_append, List.length_cons, List.length_nil, Nat.zero_add, Nat.reduceAdd, Nat.reduceBEq, Nat.beq, cond_true, cond_false, nth, setN, at?, oSub, oMul, oDiv, oMod, uNeg, oCmpI, oLt, oLe, oGt, oGe, subS, setAll, bInt, bDivmod, bAbs, bMax2, truM, isTys, isTy, Bool.or_false, Bool.false_or, Bool.true_or, Bool.or_true, Bool.and_true, Bool.true_and, Bool.and_false, Bool.false_and, Bool.not_true, Bool.not_false, eq_str, eq_int, ne_str, ne_int, nat_beq, Int.reduceEq, Int.reduceLT, Int.reduceLE, decide_true, decide_false, reduceCtorEq, q1, q2, lk, List.isEmpty, len_t, l0, l2], .refl⟩
            | false =>
              cases q3 : dbl s with
              | false => exact ⟨m, by simp only [c__law_look, of_some, v_lit, v_var, v_nil, v_dct0, v_none, x_nil, x_cont, y_nm, y_nil, g_bin20, e_bin1, g_bin10, e_un1, g_un10, g_cons20, e_cons1, g_cons10, g_tup20, e_tup1, g_tup10, g_lst20, e_lst1, g_lst10, g_fun20, e_fun1, g_fun10, g_key20, e_key1, g_key10, e_ap1, g_ap10, e_pick, g_pick0, g_pick1, g_pick2, g_pick3, e_sif, e_and1, g_and10, g_and11, e_or1, g_or10, g_or11, e_not1, g_not, g_chain40, g_chain30, g_chain31, g_chain20, e_chain1, g_chain10, e_val1, g_val, e_tru1, g_tru10, e_tand, g_tand0, g_tand1, e_tor, g_tor0, g_tor1, e_tnot, g_tnot, g_isi2, e_isi1, g_isi10, g_sl30, g_sl20, e_sl1, g_sl10, e_part1, g_part10, g_meA0, e_me0, g_me00, g_meB0, e_me1, g_me10, e_seq1, g_seq10, g_seq11, g_seq12, e_ret1, g_ret10, e_expr1, g_expr10, g_asg20, e_asg1, g_asg10, g_par20, e_par1, g_par10, e_gtup, g_gtup0, e_gs1, g_gs10, g_sub20, e_sub1, g_sub10, g_run10, g_run11, add_ii, ixt0, ixt1, ixt2, len_t0, len_t1, len_t2, len_t3, mkS, List.map_cons, List.map_nil, List.replicate, List.cons_append, List.nil_append, List.length_cons, List.length_nil, Nat.zero_add, Nat.reduceAdd, Nat.reduceBEq, Nat.beq, cond_true, cond_false, nth, setN, at?, oSub, oMul, oDiv, oMod, uNeg, oCmpI, oLt, oLe, oGt, oGe, subS, setAll, bInt, bDivmod, bAbs, bMax2, truM, isTys, isTy, Bool.or_false, Bool.false_or, Bool.true_or, Bool.or_true, Bool.and_true, Bool.true_and, Bool.and_false, Bool.false_and, Bool.not_true, Bool.not_false, eq_str, eq_int, ne_str, ne_int, nat_beq, Int.reduceEq, Int.reduceLT, Int.reduceLE, decide_true, decide_false, reduceCtorEq, q1, q2, lk, len_t, l0, ft3, in_law, q3], .refl⟩
              | true => cases r with
                | nil => exact ⟨m, by simp only [c__law_look, of_some, v_lit, v_var, v_nil, v_dct0, v_none, x_nil, x_cont, y_nm, y_nil, g_bin20, e_bin1, g_bin10, e_un1, g_un10, g_cons20, e_cons1, g_cons10, g_tup20, e_tup1, g_tup10, g_lst20, e_lst1, g_lst10, g_fun20, e_fun1, g_fun10, g_key20, e_key1, g_key10, e_ap1, g_ap10, e_pick, g_pick0, g_pick1, g_pick2, g_pick3, e_sif, e_and1, g_and10, g_and11, e_or1, g_or10, g_or11, e_not1, g_not, g_chain40, g_chain30, g_chain31, g_chain20, e_chain1, g_chain10, e_val1, g_val, e_tru1, g_tru10, e_tand, g_tand0, g_tand1, e_tor, g_tor0, g_tor1, e_tnot, g_tnot, g_isi2, e_isi1, g_isi10, g_sl30, g_sl20, e_sl1, g_sl10, e_part1, g_part10, g_meA0, e_me0, g_me00, g_meB0, e_me1, g_me10, e_seq1, g_seq10, g_seq11, g_seq12, e_ret1, g_ret10, e_expr1, g_expr10, g_asg20, e_asg1, g_asg10, g_par20, e_par1, g_par10, e_gtup, g_gtup0, e_gs1, g_gs10, g_sub20, e_sub1, g_sub10, g_run10, g_run11, add_ii, ixt0, ixt1, ixt2, len_t0, len_t1, len_t2, len_t3, mkS, List.map_cons, List.map_nil, List.replicate, List.cons_append, List.nil_append, List.length_cons, List.length_nil, Nat.zero_add, Nat.reduceAdd, Nat.reduceBEq, Nat.beq, cond_true, cond_false, nth, setN, at?, oSub, oMul, oDiv, oMod, uNeg, oCmpI, oLt, oLe, oGt, oGe, subS, setAll, bInt, bDivmod, bAbs, bMax2, truM, isTys, isTy, Bool.or_false, Bool.false_or, Bool.true_or, Bool.or_true, Bool.and_true, Bool.true_and, Bool.and_false, Bool.false_and, Bool.not_true, Bool.not_false, eq_str, eq_int, ne_str, ne_int, nat_beq, Int.reduceEq, Int.reduceLT, Int.reduceLE, decide_true, decide_false, reduceCtorEq, q1, q2, lk, ft3, in_law, q3], .refl⟩
                | cons y t => cases t with
                  | nil => exact ⟨m, by simp only [c__law_look, of_some, v_lit, v_var, v_nil, v_dct0, v_none, x_nil, x_cont, y_nm, y_nil, g_bin20, e_bin1, g_bin10, e_un1, g_un10, g_cons20, e_cons1, g_cons10, g_tup20, e_tup1, g_tup10, g_lst20, e_lst1, g_lst10, g_fun20, e_fun1, g_fun10, g_key20, e_key1, g_key10, e_ap1, g_ap10, e_pick, g_pick0, g_pick1, g_pick2, g_pick3, e_sif, e_and1, g_and10, g_and11, e_or1, g_or10, g_or11, e_not1, g_not, g_chain40, g_chain30, g_chain31, g_chain20, e_chain1, g_chain10, e_val1, g_val, e_tru1, g_tru10, e_tand, g_tand0, g_tand1, e_tor, g_tor0, g_tor1, e_tnot, g_tnot, g_isi2, e_isi1, g_isi10, g_sl30, g_sl20, e_sl1, g_sl10, e_part1, g_part10, g_meA0, e_me0, g_me00, g_meB0, e_me1, g_me10, e_seq1, g_seq10, g_seq11, g_seq12, e_ret1, g_ret10, e_expr1, g_expr10, g_asg20, e_asg1, g_asg10, g_par20, e_par1, g_par10, e_gtup, g_gtup0, e_gs1, g_gs10, g_sub20, e_sub1, g_sub10, g_run10, g_run11, add_ii, ixt0, ixt1, ixt2, len_t0, len_t1, len_t2, len_t3, mkS, List.map_cons, List.map_nil, List.replicate, List.cons_append, List.nil_append, List.length_cons, List.length_nil, Nat.zero_add, Nat.reduceAdd, Nat.reduceBEq, Nat.beq, cond_true, cond_false, nth, setN, at?, oSub, oMul, oDiv, oMod, uNeg, oCmpI, oLt, oLe, oGt, oGe, subS, setAll, bInt, bDivmod, bAbs, bMax2, truM, isTys, isTy, Bool.or_false, Bool.false_or, Bool.true_or, Bool.or_true, Bool.and_true, Bool.true_and, Bool.and_false, Bool.false_and, Bool.not_true, Bool.not_false, eq_str, eq_int, ne_str, ne_int, nat_beq, Int.reduceEq, Int.reduceLT, Int.reduceLE, decide_true, decide_false, reduceCtorEq, q1, q2, lk, ft3, in_law, q3], .refl⟩
                  | cons y2 t => cases t with
                    | cons y3 t =>
                      have l2 := len_t4 (x := .str s) (y := y) (z := y2) (v := y3) (l := t) (k := 3) (by decide)
                      simp only [List.length_cons] at l2 l0
                      exact ⟨m, by simp only [c__law_look, of_some, v_lit, v_var, v_nil, v_dct0, v_none, x_nil, x_cont, y_nm, y_nil, g_bin20, e_bin1, g_bin10, e_un1, g_un10, g_cons20, e_cons1, g_cons10, g_tup20, e_tup1, g_tup10, g_lst20, e_lst1, g_lst10, g_fun20, e_fun1, g_fun10, g_key20, e_key1, g_key10, e_ap1, g_ap10, e_pick, g_pick0, g_pick1, g_pick2, g_pick3, e_sif, e_and1, g_and10, g_and11, e_or1, g_or10, g_or11, e_not1, g_not, g_chain40, g_chain30, g_chain31, g_chain20, e_chain1, g_chain10, e_val1, g_val, e_tru1, g_tru10, e_tand, g_tand0, g_tand1, e_tor, g_tor0, g_tor1, e_tnot, g_tnot, g_isi2, e_isi1, g_isi10, g_sl30, g_sl20, e_sl1, g_sl10, e_part1, g_part10, g_meA0, e_me0, g_me00, g_meB0, e_me1, g_me10, e_seq1, g_seq10, g_seq11, g_seq12, e_ret1, g_ret10, e_expr1, g_expr10, g_asg20, e_asg1, g_asg10, g_par20, e_par1, g_par10, e_gtup, g_gtup0, e_gs1, g_gs10, g_sub20, e_sub1, g_sub10, g_run10, g_run11, add_ii, ixt0, ixt1, ixt2, len_t0, len_t1, len_t2, len_t3, mkS, List.map_cons, List.map_nil, List.replicate, List.cons_append, List.nil_append, List.length_cons, List.length_nil, Nat.zero_add, Nat.reduceAdd, Nat.reduceBEq, Nat.beq, cond_true, cond_false, nth, setN, at?, oSub, oMul, oDiv, oMod, uNeg, oCmpI, oLt, oLe, oGt, oGe, subS, setAll, bInt, bDivmod, bAbs, bMax2, truM, isTys, isTy, Bool.or_false, Bool.false_or, Bool.true_or, Bool.or_true, Bool.and_true, Bool.true_and, Bool.and_false, Bool.false_and, Bool.not_true, Bool.not_false, eq_str, eq_int, ne_str, ne_int, nat_beq, Int.reduceEq, Int.reduceLT, Int.reduceLE, decide_true, decide_false, reduceCtorEq, q1, q2, lk, ft3, in_law, q3, len_t, l0, l2], .refl⟩
                    | nil =>
                      obtain ⟨ys, m2, e1, e2, e3, e4⟩ := comp_ev (P := Grow) (Q := fun _ v y => y = .bl (lk f v)) way_grow (fun _ h => h) (i := 1) (t := tYesC) (e := cFun (tab bodies k) 12 1 (aCons (cVar 1) aNil)) (T := fun _ => true) (own := [1])
                        (ci := iSeqC (cSl (cVar 0) (oPart (cLit (.int 1))) oNone)) (σ := [some (.tup [.str s, y, y2]), none]) (m := m) (l := [y, y2]) (e_iseqT (by simp only [of_some, v_lit, v_var, v_nil, v_dct0, v_none, x_nil, x_cont, y_nm, y_nil, g_bin20, e_bin1, g_bin10, e_un1, g_un10, g_cons20, e_cons1, g_cons10, g_tup20, e_tup1, g_tup10, g_lst20, e_lst1, g_lst10, g_fun20, e_fun1, g_fun10, g_key20, e_key1, g_key10, e_ap1, g_ap10, e_pick, g_pick0, g_pick1, g_pick2, g_pick3, e_sif, e_and1, g_and10, g_and11, e_or1, g_or10, g_or11, e_not1, g_not, g_chain40, g_chain30, g_chain31, g_chain20, e_chain1, g_chain10, e_val1, g_val, e_tru1, g_tru10, e_tand, g_tand0, g_tand1, e_tor, g_tor0, g_tor1, e_tnot, g_tnot, g_isi2, e_isi1, g_isi10, g_sl30, g_sl20, e_sl1, g_sl10, e_part1, g_part10, g_meA0, e_me0, g_me00, g_meB0, e_me1, g_me10, e_seq1, g_seq10, g_seq11, g_seq12, e_ret1, g_ret10, e_expr1, g_expr10, g_asg20, e_asg1, g_asg10, g_par20, e_par1, g_par10, e_gtup, g_gtup0, e_gs1, g_gs10, g_sub20, e_sub1, g_sub10, g_run10, g_run11, add_ii, ixt0, ixt1, ixt2, len_t0, len_t1, len_t2, len_t3, mkS, List.map_cons, List.map_nil, List.replicate, List.cons_append, List.nil_append, List.length_cons, List.length_nil, Nat.zero_add, Nat.reduceAdd, Nat.reduceBEq, Nat.beq, cond_true, cond_false, nth, setN, at?, oSub, oMul, oDiv, oMod, uNeg, oCmpI, oLt, oLe, oGt, oGe, subS, setAll, bInt, bDivmod, bAbs, bMax2, truM, isTys, isTy, Bool.or_false, Bool.false_or, Bool.true_or, Bool.or_true, Bool.and_true, Bool.true_and, Bool.and_false, Bool.false_and, Bool.not_true, Bool.not_false, eq_str, eq_int, ne_str, ne_int, nat_beq, Int.reduceEq, Int.reduceLT, Int.reduceLE, decide_true, decide_false, reduceCtorEq, slM, cut1])) (show 2 ≤ 16777216 by decide) (fun _ _ _ _ h => h) (fun v hv m1 g => by
                          refine ⟨rfl, fun _ => ?_⟩
                          have nv : Nice a m1 [v] w h0 := by
                            have : Nice a m1 [y, y2] w h0 := nr.mono (Grow.trans .new g).ext
                            rcases List.mem_cons.mp hv with rfl | hv
                            · exact this.uncons.1
                            · rw [List.mem_singleton.mp hv]; exact this.uncons.2.uncons.1
                          obtain ⟨m2, z, gr⟩ := look_ok f nv (by omega) hw k (by omega)
                          exact ⟨_, m2, by simp only [of_some, v_lit, v_var, v_nil, v_dct0, v_none, x_nil, x_cont, y_nm, y_nil, g_bin20, e_bin1, g_bin10, e_un1, g_un10, g_cons20, e_cons1, g_cons10, g_tup20, e_tup1, g_tup10, g_lst20, e_lst1, g_lst10, g_fun20, e_fun1, g_fun10, g_key20, e_key1, g_key10, e_ap1, g_ap10, e_pick, g_pick0, g_pick1, g_pick2, g_pick3, e_sif, e_and1, g_and10, g_and11, e_or1, g_or10, g_or11, e_not1, g_not, g_chain40, g_chain30, g_chain31, g_chain20, e_chain1, g_chain10, e_val1, g_val, e_tru1, g_tru10, e_tand, g_tand0, g_tand1, e_tor, g_tor0, g_tor1, e_tnot, g_tnot, g_isi2, e_isi1, g_isi10, g_sl30, g_sl20, e_sl1, g_sl10, e_part1, g_part10, g_meA0, e_me0, g_me00, g_meB0, e_me1, g_me10, e_seq1, g_seq10, g_seq11, g_seq12, e_ret1, g_ret10, e_expr1, g_expr10, g_asg20, e_asg1, g_asg10, g_par20, e_par1, g_par10, e_gtup, g_gtup0, e_gs1, g_gs10, g_sub20, e_sub1, g_sub10, g_run10, g_run11, add_ii, ixt0, ixt1, ixt2, len_t0, len_t1, len_t2, len_t3, mkS, List.map_cons, List.map_nil, List.replicate, List.cons_append, List.nil_append, List.length_cons, List.length_nil, Nat.zero_add, Nat.reduceAdd, Nat.reduceBEq, Nat.beq, cond_true, cond_false, nth, setN, at?, oSub, oMul, oDiv, oMod, uNeg, oCmpI, oLt, oLe, oGt, oGe, subS, setAll, bInt, bDivmod, bAbs, bMax2, truM, isTys, isTy, Bool.or_false, Bool.false_or, Bool.true_or, Bool.or_true, Bool.and_true, Bool.true_and, Bool.and_false, Bool.false_and, Bool.not_true, Bool.not_false, eq_str, eq_int, ne_str, ne_int, nat_beq, Int.reduceEq, Int.reduceLT, Int.reduceLE, decide_true, decide_false, reduceCtorEq, wipeS, z], gr, rfl⟩)
                      cases e4 with
                      | cons h1 e4 => cases e4 with
                        | cons h2 e4 =>
                          cases e4
                          subst h1 h2
                          refine ⟨m2, ?_, e3⟩
                          simp only [c__law_look, of_some, v_lit, v_var, v_nil, v_dct0, v_none, x_nil, x_cont, y_nm, y_nil, g_bin20, e_bin1, g_bin10, e_un1, g_un10, g_cons20, e_cons1, g_cons10, g_tup20, e_tup1, g_tup10, g_lst20, e_lst1, g_lst10, g_fun20, e_fun1, g_fun10, g_key20, e_key1, g_key10, e_ap1, g_ap10, e_pick, g_pick0, g_pick1, g_pick2, g_pick3, e_sif, e_and1, g_and10, g_and11, e_or1, g_or10, g_or11, e_not1, g_not, g_chain40, g_chain30, g_chain31, g_chain20, e_chain1, g_chain10, e_val1, g_val, e_tru1, g_tru10, e_tand, g_tand0, g_tand1, e_tor, g_tor0, g_tor1, e_tnot, g_tnot, g_isi2, e_isi1, g_isi10, g_sl30, g_sl20, e_sl1, g_sl10, e_part1, g_part10, g_meA0, e_me0, g_me00, g_meB0, e_me1, g_me10, e_seq1, g_seq10, g_seq11, g_seq12, e_ret1, g_ret10, e_expr1, g_expr10, g_asg20, e_asg1, g_asg10, g_par20, e_par1, g_par10, e_gtup, g_gtup0, e_gs1, g_gs10, g_sub20, e_sub1, g_sub10, g_run10, g_run11, add_ii, ixt0, ixt1, ixt2, len_t0, len_t1, len_t2, len_t3, mkS, List.map_cons, List.map_nil, List.replicate, List.cons_append, List.nil_append, List.length_cons, List.length_nil, Nat.zero_add, Nat.reduceAdd, Nat.reduceBEq, Nat.beq, cond_true, cond_false, nth, setN, at?, oSub, oMul, oDiv, oMod, uNeg, oCmpI, oLt, oLe, oGt, oGe, subS, setAll, bInt, bDivmod, bAbs, bMax2, truM, isTys, isTy, Bool.or_false, Bool.false_or, Bool.true_or, Bool.or_true, Bool.and_true, Bool.true_and, Bool.and_false, Bool.false_and, Bool.not_true, Bool.not_false, eq_str, eq_int, ne_str, ne_int, nat_beq, Int.reduceEq, Int.reduceLT, Int.reduceLE, decide_true, decide_false, reduceCtorEq, q1, q2, lk, ft3, in_law, q3, e1, all_2 e2]
end W_k11

set_option Elab.async false
set_option linter.all false
set_option maxRecDepth 100000
set_option maxHeartbeats 1000000
namespace W_k11
open PySem Mini
def isT : MV → Bool
  | .tup _ => true
  | _ => false
theorem Lk.isT {d : Nat} {v : MV} (h : Lk d v) : isT v = true := by cases h <;> rfl
theorem lsigns_ok {d : Nat} {v : MV} (h : Lk d v) : ∀ (k : Nat) (m : M), d ≤ k → ∃ m', tab bodies k 10 [v] m = .ok (.int (sg d v)) m' ∧ Grow m m' := by
  induction h with
  | @let_ d s i h p1 p2 =>
    intro k m hk; obtain ⟨k, rfl⟩ : ∃ j, k = j + 1 := ⟨k - 1, by omega⟩
    rw [show tab bodies (k + 1) 10 = runB 1 1 (c__law_signs (tab bodies k)) from rfl, x_run rfl]
    obtain ⟨ys, m2, e1, e2, e3, e4⟩ := comp_ev (P := Grow) (Q := fun _ v y => True) way_grow (fun _ h => h) (i := 1) (t := tTru (cIsi (cVar 1) [.tuple])) (e := cFun (tab bodies k) 10 1 (aCons (cVar 1) aNil)) (T := isT) (own := [1])
      (ci := iSeqC (cSl (cVar 0) (oPart (cLit (.int 1))) oNone)) (σ := [some (.tup [.str s, .int i]), none]) (m := m) (l := [.int i]) (e_iseqT (by simp only [of_some, v_lit, v_var, v_nil, v_dct0, v_none, x_nil, x_cont, y_nm, y_nil, g_bin20, e_bin1, g_bin10, e_un1, g_un10, g_cons20, e_cons1, g_cons10, g_tup20, e_tup1, g_tup10, g_lst20, e_lst1, g_lst10, g_fun20, e_fun1, g_fun10, g_key20, e_key1, g_key10, e_ap1, g_ap10, e_pick, g_pick0, g_pick1, g_pick2, g_pick3, e_sif, e_and1, g_and10, g_and11, e_or1, g_or10, g_or11, e_not1, g_not, g_chain40, g_chain30, g_chain31, g_chain20, e_chain1, g_chain10, e_val1, g_val, e_tru1, g_tru10, e_tand, g_tand0, g_tand1, e_tor, g_tor0, g_tor1, e_tnot, g_tnot, g_isi2, e_isi1, g_isi10, g_sl30, g_sl20, e_sl1, g_sl10, e_part1, g_part10, g_meA0, e_me0, g_me00, g_meB0, e_me1, g_me10, e_seq1, g_seq10, g_seq11, g_seq12, e_ret1, g_ret10, e_expr1, g_expr10, g_asg20, e_asg1, g_asg10, g_par20, e_par1, g_par10, e_gtup, g_gtup0, e_gs1, g_gs10, g_sub20, e_sub1, g_sub10, g_run10, g_run11, add_ii, ixt0, ixt1, ixt2, len_t0, len_t1, len_t2, len_t3, mkS, List.map_cons, List.map_nil, List.replicate, List.cons_append, List.nil_append, List.length_cons, List.length_nil, Nat.zero_add, Nat.reduceAdd, Nat.reduceBEq, Nat.beq, cond_true, cond_false, nth, setN, at?, oSub, oMul, oDiv, oMod, uNeg, oCmpI, oLt, oLe, oGt, oGe, subS, setAll, bInt, bDivmod, bAbs, bMax2, truM, isTys, isTy, Bool.or_false, Bool.false_or, Bool.true_or, Bool.or_true, Bool.and_true, Bool.true_and, Bool.and_false, Bool.false_and, Bool.not_true, Bool.not_false, eq_str, eq_int, ne_str, ne_int, nat_beq, Int.reduceEq, Int.reduceLT, Int.reduceLE, decide_true, decide_false, reduceCtorEq, slM, cut1])) (show 1 ≤ 16777216 by decide) (fun _ _ _ _ h => h) (fun v hv m1 g => by
        rw [List.mem_singleton.mp hv]
        exact ⟨by simp only [of_some, v_lit, v_var, v_nil, v_dct0, v_none, x_nil, x_cont, y_nm, y_nil, g_bin20, e_bin1, g_bin10, e_un1, g_un10, g_cons20, e_cons1, g_cons10, g_tup20, e_tup1, g_tup10, g_lst20, e_lst1, g_lst10, g_fun20, e_fun1, g_fun10, g_key20, e_key1, g_key10, e_ap1, g_ap10, e_pick, g_pick0, g_pick1, g_pick2, g_pick3, e_sif, e_and1, g_and10, g_and11, e_or1, g_or10, g_or11, e_not1, g_not, g_chain40, g_chain30, g_chain31, g_chain20, e_chain1, g_chain10, e_val1, g_val, e_tru1, g_tru10, e_tand, g_tand0, g_tand1, e_tor, g_tor0, g_tor1, e_tnot, g_tnot, g_isi2, e_isi1, g_isi10, g_sl30, g_sl20, e_sl1, g_sl10, e_part1, g_part10, g_meA0, e_me0, g_me00, g_meB0, e_me1, g_me10, e_seq1, g_seq10, g_seq11, g_seq12, e_ret1, g_ret10, e_expr1, g_expr10, g_asg20, e_asg1, g_asg10, g_par20, e_par1, g_par10, e_gtup, g_gtup0, e_gs1, g_gs10, g_sub20, e_sub1, g_sub10, g_run10, g_run11, add_ii, ixt0, ixt1, ixt2, len_t0, len_t1, len_t2, len_t3, mkS, List.map_cons, List.map_nil, List.replicate, List.cons_append, List.nil_append, List.length_cons, List.length_nil, Nat.zero_add, Nat.reduceAdd, Nat.reduceBEq, Nat.beq, cond_true, cond_false, nth, setN, at?, oSub, oMul, oDiv, oMod, uNeg, oCmpI, oLt, oLe, oGt, oGe, subS, setAll, bInt, bDivmod, bAbs, bMax2, truM, isTys, isTy, Bool.or_false, Bool.false_or, Bool.true_or, Bool.or_true, Bool.and_true, Bool.true_and, Bool.and_false, Bool.false_and, Bool.not_true, Bool.not_false, eq_str, eq_int, ne_str, ne_int, nat_beq, Int.reduceEq, Int.reduceLT, Int.reduceLE, decide_true, decide_false, reduceCtorEq, wipeS]; rfl, fun z => by cases z⟩)
    cases e4
    exact ⟨m2, by simp only [c__law_signs, of_some, v_lit, v_var, v_nil, v_dct0, v_none, x_nil, x_cont, y_nm, y_nil, g_bin20, e_bin1, g_bin10, e_un1, g_un10, g_cons20, e_cons1, g_cons10, g_tup20, e_tup1, g_tup10, g_lst20, e_lst1, g_lst10, g_fun20, e_fun1, g_fun10, g_key20, e_key1, g_key10, e_ap1, g_ap10, e_pick, g_pick0, g_pick1, g_pick2, g_pick3, e_sif, e_and1, g_and10, g_and11, e_or1, g_or10, g_or11, e_not1, g_not, g_chain40, g_chain30, g_chain31, g_chain20, e_chain1, g_chain10, e_val1, g_val, e_tru1, g_tru10, e_tand, g_tand0, g_tand1, e_tor, g_tor0, g_tor1, e_tnot, g_tnot, g_isi2, e_isi1, g_isi10, g_sl30, g_sl20, e_sl1, g_sl10, e_part1, g_part10, g_meA0, e_me0, g_me00, g_meB0, e_me1, g_me10, e_seq1, g_seq10, g_seq11, g_seq12, e_ret1, g_ret10, e_expr1, g_expr10, g_asg20, e_asg1, g_asg10, g_par20, e_par1, g_par10, e_gtup, g_gtup0, e_gs1, g_gs10, g_sub20, e_sub1, g_sub10, g_run10, g_run11, add_ii, ixt0, ixt1, ixt2, len_t0, len_t1, len_t2, len_t3, mkS, List.map_cons, List.map_nil, List.replicate, List.cons_append, List.nil_append, List.length_cons, List.length_nil, Nat.zero_add, Nat.reduceAdd, Nat.reduceBEq, Nat.beq, cond_true, cond_false, nth, setN, at?, oSub, oMul, oDiv, oMod, uNeg, oCmpI, oLt, oLe, oGt, oGe, subS, setAll, bInt, bDivmod, bAbs, bMax2, truM, isTys, isTy, Bool.or_false, Bool.false_or, Bool.true_or, Bool.or_true, Bool.and_true, Bool.true_and, Bool.and_false, Bool.false_and, Bool.not_true, Bool.not_false, eq_str, eq_int, ne_str, ne_int, nat_beq, Int.reduceEq, Int.reduceLT, Int.reduceLE, decide_true, decide_false, reduceCtorEq, e1, sum_0 e2, sg]; rfl, e3⟩
  | @one d s h =>
    intro k m hk; obtain ⟨k, rfl⟩ : ∃ j, k = j + 1 := ⟨k - 1, by omega⟩
    rw [show tab bodies (k + 1) 10 = runB 1 1 (c__law_signs (tab bodies k)) from rfl, x_run rfl]
    obtain ⟨ys, m2, e1, e2, e3, e4⟩ := comp_ev (P := Grow) (Q := fun _ v y => True) way_grow (fun _ h => h) (i := 1) (t := tTru (cIsi (cVar 1) [.tuple])) (e := cFun (tab bodies k) 10 1 (aCons (cVar 1) aNil)) (T := isT) (own := [1])
      (ci := iSeqC (cSl (cVar 0) (oPart (cLit (.int 1))) oNone)) (σ := [some (.tup [.str s]), none]) (m := m) (l := []) (e_iseqT (by simp only [of_some, v_lit, v_var, v_nil, v_dct0, v_none, x_nil, x_cont, y_nm, y_nil, g_bin20, e_bin1, g_bin10, e_un1, g_un10, g_cons20, e_cons1, g_cons10, g_tup20, e_tup1, g_tup10, g_lst20, e_lst1, g_lst10, g_fun20, e_fun1, g_fun10, g_key20, e_key1, g_key10, e_ap1, g_ap10, e_pick, g_pick0, g_pick1, g_pick2, g_pick3, e_sif, e_and1, g_and10, g_and11, e_or1, g_or10, g_or11, e_not1, g_not, g_chain40, g_chain30, g_chain31, g_chain20, e_chain1, g_chain10, e_val1, g_val, e_tru1, g_tru10, e_tand, g_tand0, g_tand1, e_tor, g_tor0, g_tor1, e_tnot, g_tnot, g_isi2, e_isi1, g_isi10, g_sl30, g_sl20, e_sl1, g_sl10, e_part1, g_part10, g_meA0, e_me0, g_me00, g_meB0, e_me1, g_me10, e_seq1, g_seq10, g_seq11, g_seq12, e_ret1, g_ret10, e_expr1, g_expr10, g_asg20, e_asg1, g_asg10, g_par20, e_par1, g_par10, e_gtup, g_gtup0, e_gs1, g_gs10, g_sub20, e_sub1, g_sub10, g_run10, g_run11, add_ii, ixt0, ixt1, ixt2, len_t0, len_t1, len_t2, len_t3, mkS, List.map_cons, List.map_nil, List.replicate, List.cons_append, List.nil_append, List.length_cons, List.length_nil, Nat.zero_add, Nat.reduceAdd, Nat.reduceBEq, Nat.beq, cond_true, cond_false, nth, setN, at?, oSub, oMul, oDiv, oMod, uNeg, oCmpI, oLt, oLe, oGt, oGe, subS, setAll, bInt, bDivmod, bAbs, bMax2, truM, isTys, isTy, Bool.or_false, Bool.false_or, Bool.true_or, Bool.or_true, Bool.and_true, Bool.true_and, Bool.and_false, Bool.false_and, Bool.not_true, Bool.not_false, eq_str, eq_int, ne_str, ne_int, nat_beq, Int.reduceEq, Int.reduceLT, Int.reduceLE, decide_true, decide_false, reduceCtorEq, slM, cut1])) (show 0 ≤ 16777216 by decide) (fun _ _ _ _ h => h) (fun v hv m1 g => by cases hv)
    cases e4
    exact ⟨m2, by simp only [c__law_signs, of_some, v_lit, v_var, v_nil, v_dct0, v_none, x_nil, x_cont, y_nm, y_nil, g_bin20, e_bin1, g_bin10, e_un1, g_un10, g_cons20, e_cons1, g_cons10, g_tup20, e_tup1, g_tup10, g_lst20, e_lst1, g_lst10, g_fun20, e_fun1, g_fun10, g_key20, e_key1, g_key10, e_ap1, g_ap10, e_pick, g_pick0, g_pick1, g_pick2, g_pick3, e_sif, e_and1, g_and10, g_and11, e_or1, g_or10, g_or11, e_not1, g_not, g_chain40, g_chain30, g_chain31, g_chain20, e_chain1, g_chain10, e_val1, g_val, e_tru1, g_tru10, e_tand, g_tand0, g_tand1, e_tor, g_tor0, g_tor1, e_tnot, g_tnot, g_isi2, e_isi1, g_isi10, g_sl30, g_sl20, e_sl1, g_sl10, e_part1, g_part10, g_meA0, e_me0, g_me00, g_meB0, e_me1, g_me10, e_seq1, g_seq10, g_seq11, g_seq12, e_ret1, g_ret10, e_expr1, g_expr10, g_asg20, e_asg1, g_asg10, g_par20, e_par1, g_par10, e_gtup, g_gtup0, e_gs1, g_gs10, g_sub20, e_sub1, g_sub10, g_run10, g_run11, add_ii, ixt0, ixt1, ixt2, len_t0, len_t1, len_t2, len_t3, mkS, List.map_cons, List.map_nil, List.replicate, List.cons_append, List.nil_append, List.length_cons, List.length_nil, Nat.zero_add, Nat.reduceAdd, Nat.reduceBEq, Nat.beq, cond_true, cond_false, nth, setN, at?, oSub, oMul, oDiv, oMod, uNeg, oCmpI, oLt, oLe, oGt, oGe, subS, setAll, bInt, bDivmod, bAbs, bMax2, truM, isTys, isTy, Bool.or_false, Bool.false_or, Bool.true_or, Bool.or_true, Bool.and_true, Bool.true_and, Bool.and_false, Bool.false_and, Bool.not_true, Bool.not_false, eq_str, eq_int, ne_str, ne_int, nat_beq, Int.reduceEq, Int.reduceLT, Int.reduceLE, decide_true, decide_false, reduceCtorEq, e1, sum_0 e2, sg]; rfl, e3⟩
  | @two d s x y h1 h2 h3 hx hy i1 i2 =>
    intro k m hk; obtain ⟨k, rfl⟩ : ∃ j, k = j + 1 := ⟨k - 1, by omega⟩
    rw [show tab bodies (k + 1) 10 = runB 1 1 (c__law_signs (tab bodies k)) from rfl, x_run rfl]
    obtain ⟨ys, m2, e1, e2, e3, e4⟩ := comp_ev (P := Grow) (Q := fun _ v z => z = .int (sg d v)) way_grow (fun _ h => h) (i := 1) (t := tTru (cIsi (cVar 1) [.tuple])) (e := cFun (tab bodies k) 10 1 (aCons (cVar 1) aNil)) (T := isT) (own := [1])
      (ci := iSeqC (cSl (cVar 0) (oPart (cLit (.int 1))) oNone)) (σ := [some (.tup [.str s, x, y]), none]) (m := m) (l := [x, y]) (e_iseqT (by simp only [of_some, v_lit, v_var, v_nil, v_dct0, v_none, x_nil, x_cont, y_nm, y_nil, g_bin20, e_bin1, g_bin10, e_un1, g_un10, g_cons20, e_cons1, g_cons10, g_tup20, e_tup1, g_tup10, g_lst20, e_lst1, g_lst10, g_fun20, e_fun1, g_fun10, g_key20, e_key1, g_key10, e_ap1, g_ap10, e_pick, g_pick0, g_pick1, g_pick2, g_pick3, e_sif, e_and1, g_and10, g_and11, e_or1, g_or10, g_or11, e_not1, g_not, g_chain40, g_chain30, g_chain31, g_chain20, e_chain1, g_chain10, e_val1, g_val, e_tru1, g_tru10, e_tand, g_tand0, g_tand1, e_tor, g_tor0, g_tor1, e_tnot, g_tnot, g_isi2, e_isi1, g_isi10, g_sl30, g_sl20, e_sl1, g_sl10, e_part1, g_part10, g_meA0, e_me0, g_me00, g_meB0, e_me1, g_me10, e_seq1, g_seq10, g_seq11, g_seq12, e_ret1, g_ret10, e_expr1, g_expr10, g_asg20, e_asg1, g_asg10, g_par20, e_par1, g_par10, e_gtup, g_gtup0, e_gs1, g_gs10, g_sub20, e_sub1, g_sub10, g_run10, g_run11, add_ii, ixt0, ixt1, ixt2, len_t0, len_t1, len_t2, len_t3, mkS, List.map_cons, List.map_nil, List.replicate, List.cons_append, List.nil_append, List.length_cons, List.length_nil, Nat.zero_add, Nat.reduceAdd, Nat.reduceBEq, Nat.beq, cond_true, cond_false, nth, setN, at?, oSub, oMul, oDiv, oMod, uNeg, oCmpI, oLt, oLe, oGt, oGe, subS, setAll, bInt, bDivmod, bAbs, bMax2, truM, isTys, isTy, Bool.or_false, Bool.false_or, Bool.true_or, Bool.or_true, Bool.and_true, Bool.true_and, Bool.and_false, Bool.false_and, Bool.not_true, Bool.not_false, eq_str, eq_int, ne_str, ne_int, nat_beq, Int.reduceEq, Int.reduceLT, Int.reduceLE, decide_true, decide_false, reduceCtorEq, slM, cut1])) (show 2 ≤ 16777216 by decide) (fun _ _ _ _ h => h) (fun v hv m1 g => by
        have key : ∀ {u : MV}, Lk d u → (∀ (k : Nat) (m : M), d ≤ k → ∃ m', tab bodies k 10 [u] m = .ok (.int (sg d u)) m' ∧ Grow m m') → tTru (cIsi (cVar 1) [.tuple]) (setN (some u) (wipeS [some (.tup [.str s, x, y]), none] [1]) 1) m1 = .ok (isT u) m1 ∧ (isT u = true → ∃ z m2, cFun (tab bodies k) 10 1 (aCons (cVar 1) aNil) (setN (some u) (wipeS [some (.tup [.str s, x, y]), none] [1]) 1) m1 = .ok z m2 ∧ Grow m1 m2 ∧ z = .int (sg d u)) := fun {u} hu ih => by
          refine ⟨by cases hu <;> (simp only [of_some, v_lit, v_var, v_nil, v_dct0, v_none, x_nil, x_cont, y_nm, y_nil, g_bin20, e_bin1, g_bin10, e_un1, g_un10, g_cons20, e_cons1, g_cons10, g_tup20, e_tup1, g_tup10, g_lst20, e_lst1, g_lst10, g_fun20, e_fun1, g_fun10, g_key20, e_key1, g_key10, e_ap1, g_ap10, e_pick, g_pick0, g_pick1, g_pick2, g_pick3, e_sif, e_and1, g_and10, g_and11, e_or1, g_or10, g_or11, e_not1, g_not, g_chain40, g_chain30, g_chain31, g_chain20, e_chain1, g_chain10, e_val1, g_val, e_tru1, g_tru10, e_tand, g_tand0, g_tand1, e_tor, g_tor0, g_tor1, e_tnot, g_tnot, g_isi2, e_isi1, g_isi10, g_sl30, g_sl20, e_sl1, g_sl10, e_part1, g_part10, g_meA0, e_me0, g_me00, g_meB0, e_me1, g_me10, e_seq1, g_seq10, g_seq11, g_seq12, e_ret1, g_ret10, e_expr1, g_expr10, g_asg20, e_asg1, g_asg10, g_par20, e_par1, g_par10, e_gtup, g_gtup0, e_gs1, g_gs10, g_sub20, e_sub1, g_sub10, g_run10, g_run11, add_ii, ixt0, ixt1, ixt2, len_t0, len_t1, len_t2, len_t3, mkS, List.map_cons, List.map_nil, List.replicate, List.cons_append, List.nil_append, List.length_cons, List.length_nil, Nat.zero_add, Nat.reduceAdd, Nat.reduceBEq, Nat.beq, cond_true, cond_false, nth, setN, at?, oSub, oMul, oDiv, oMod, uNeg, oCmpI, oLt, oLe, oGt, oGe, subS, setAll, bInt, bDivmod, bAbs, bMax2, truM, isTys, isTy, Bool.or_false, Bool.false_or, Bool.true_or, Bool.or_true, Bool.and_true, Bool.true_and, Bool.and_false, Bool.false_and, Bool.not_true, Bool.not_false, eq_str, eq_int, ne_str, ne_int, nat_beq, Int.reduceEq, Int.reduceLT, Int.reduceLE, decide_true, decide_false, reduceCtorEq, wipeS]; rfl), fun _ => ?_⟩
          obtain ⟨m2, z, gr⟩ := ih k m1 (by omega)
          exact ⟨_, m2, by simp only [of_some, v_lit, v_var, v_nil, v_dct0, v_none, x_nil, x_cont, y_nm, y_nil, g_bin20, e_bin1, g_bin10, e_un1, g_un10, g_cons20, e_cons1, g_cons10, g_tup20, e_tup1, g_tup10, g_lst20, e_lst1, g_lst10, g_fun20, e_fun1, g_fun10, g_key20, e_key1, g_key10, e_ap1, g_ap10, e_pick, g_pick0, g_pick1, g_pick2, g_pick3, e_sif, e_and1, g_and10, g_and11, e_or1, g_or10, g_or11, e_not1, g_not, g_chain40, g_chain30, g_chain31, g_chain20, e_chain1, g_chain10, e_val1, g_val, e_tru1, g_tru10, e_tand, g_tand0, g_tand1, e_tor, g_tor0, g_tor1, e_tnot, g_tnot, g_isi2, e_isi1, g_isi10, g_sl30, g_sl20, e_sl1, g_sl10, e_part1, g_part10, g_meA0, e_me0, g_me00, g_meB0, e_me1, g_me10, e_seq1, g_seq10, g_seq11, g_seq12, e_ret1, g_ret10, e_expr1, g_expr10, g_asg20, e_asg1, g_asg10, g_par20, e_par1, g_par10, e_gtup, g_gtup0, e_gs1, g_gs10, g_sub20, e_sub1, g_sub10, g_run10, g_run11, add_ii, ixt0, ixt1, ixt2, len_t0, len_t1, len_t2, len_t3, mkS, List.map_cons, List.map_nil, List.replicate, List.cons_append, List.nil_append, List.length_cons, List.length_nil, Nat.zero_add, Nat.reduceAdd, Nat.reduceBEq, Nat.beq, cond_true, cond_false, nth, setN, at?, oSub, oMul, oDiv, oMod, uNeg, oCmpI, oLt, oLe, oGt, oGe, subS, setAll, bInt, bDivmod, bAbs, bMax2, truM, isTys, isTy, Bool.or_false, Bool.false_or, Bool.true_or, Bool.or_true, Bool.and_true, Bool.true_and, Bool.and_false, Bool.false_and, Bool.not_true, Bool.not_false, eq_str, eq_int, ne_str, ne_int, nat_beq, Int.reduceEq, Int.reduceLT, Int.reduceLE, decide_true, decide_false, reduceCtorEq, wipeS, z], gr, rfl⟩
        rcases List.mem_cons.mp hv with rfl | hv
        · exact key hx i1
        · rw [List.mem_singleton.mp hv]; exact key hy i2)
    rw [List.filter_cons_of_pos hx.isT, List.filter_cons_of_pos hy.isT, List.filter_nil] at e4
    cases e4 with
    | cons g1 e4 => cases e4 with
      | cons g2 e4 =>
        cases e4
        subst g1 g2
        exact ⟨m2, by simp only [c__law_signs, of_some, v_lit, v_var, v_nil, v_dct0, v_none, x_nil, x_cont, y_nm, y_nil, g_bin20, e_bin1, g_bin10, e_un1, g_un10, g_cons20, e_cons1, g_cons10, g_tup20, e_tup1, g_tup10, g_lst20, e_lst1, g_lst10, g_fun20, e_fun1, g_fun10, g_key20, e_key1, g_key10, e_ap1, g_ap10, e_pick, g_pick0, g_pick1, g_pick2, g_pick3, e_sif, e_and1, g_and10, g_and11, e_or1, g_or10, g_or11, e_not1, g_not, g_chain40, g_chain30, g_chain31, g_chain20, e_chain1, g_chain10, e_val1, g_val, e_tru1, g_tru10, e_tand, g_tand0, g_tand1, e_tor, g_tor0, g_tor1, e_tnot, g_tnot, g_isi2, e_isi1, g_isi10, g_sl30, g_sl20, e_sl1, g_sl10, e_part1, g_part10, g_meA0, e_me0, g_me00, g_meB0, e_me1, g_me10, e_seq1, g_seq10, g_seq11, g_seq12, e_ret1, g_ret10, e_expr1, g_expr10, g_asg20, e_asg1, g_asg10, g_par20, e_par1, g_par10, e_gtup, g_gtup0, e_gs1, g_gs10, g_sub20, e_sub1, g_sub10, g_run10, g_run11, add_ii, ixt0, ixt1, ixt2, len_t0, len_t1, len_t2, len_t3, mkS, List.map_cons, List.map_nil, List.replicate, List.cons_append, List.nil_append, List.length_cons, List.length_nil, Nat.zero_add, Nat.reduceAdd, Nat.reduceBEq, Nat.beq, cond_true, cond_false, nth, setN, at?, oSub, oMul, oDiv, oMod, uNeg, oCmpI, oLt, oLe, oGt, oGe, subS, setAll, bInt, bDivmod, bAbs, bMax2, truM, isTys, isTy, Bool.or_false, Bool.false_or, Bool.true_or, Bool.or_true, Bool.and_true, Bool.true_and, Bool.and_false, Bool.false_and, Bool.not_true, Bool.not_false, eq_str, eq_int, ne_str, ne_int, nat_beq, Int.reduceEq, Int.reduceLT, Int.reduceLE, decide_true, decide_false, reduceCtorEq, e1, sum_2 e2, sg, h3]; congr 2; omega, e3⟩
theorem ldeep_ok {d : Nat} {v : MV} (h : Lk d v) : ∀ (k : Nat) (m : M), d ≤ k → ∃ m', tab bodies k 11 [v] m = .ok (.int (dp d v)) m' ∧ Grow m m' := by
  have plus : ∀ {b c : Nat} {m : M} {l k : List MV}, m.get b = some (.lst l) → m.get c = some (.lst k) → l.length + k.length ≤ 16777216 → oAdd (.ref b) (.ref c) m = .ok (.ref m.n) (m.new (.lst (l ++ k))) := fun {b c m l k} g1 g2 h => by
    simp only [oAdd, g1, g2, newO, fits_of h, cond_true]
  induction h with
  | @let_ d s i h p1 p2 =>
    intro k m hk; obtain ⟨k, rfl⟩ : ∃ j, k = j + 1 := ⟨k - 1, by omega⟩
    rw [show tab bodies (k + 1) 11 = runB 1 1 (c__law_deep (tab bodies k)) from rfl, x_run rfl]
    obtain ⟨ys, m2, e1, e2, e3, e4⟩ := comp_ev (P := Grow) (Q := fun _ v y => True) way_grow (fun _ h => h) (i := 1) (t := tTru (cIsi (cVar 1) [.tuple])) (e := cFun (tab bodies k) 11 1 (aCons (cVar 1) aNil)) (T := isT) (own := [1])
      (ci := iSeqC (cSl (cVar 0) (oPart (cLit (.int 1))) oNone)) (σ := [some (.tup [.str s, .int i]), none]) (m := m.new (.lst [.int 0])) (l := [.int i]) (e_iseqT (by simp only [of_some, v_lit, v_var, v_nil, v_dct0, v_none, x_nil, x_cont, y_nm, y_nil, g_bin20, e_bin1, g_bin10, e_un1, g_un10, g_cons20, e_cons1, g_cons10, g_tup20, e_tup1, g_tup10, g_lst20, e_lst1, g_lst10, g_fun20, e_fun1, g_fun10, g_key20, e_key1, g_key10, e_ap1, g_ap10, e_pick, g_pick0, g_pick1, g_pick2, g_pick3, e_sif, e_and1, g_and10, g_and11, e_or1, g_or10, g_or11, e_not1, g_not, g_chain40, g_chain30, g_chain31, g_chain20, e_chain1, g_chain10, e_val1, g_val, e_tru1, g_tru10, e_tand, g_tand0, g_tand1, e_tor, g_tor0, g_tor1, e_tnot, g_tnot, g_isi2, e_isi1, g_isi10, g_sl30, g_sl20, e_sl1, g_sl10, e_part1, g_part10, g_meA0, e_me0, g_me00, g_meB0, e_me1, g_me10, e_seq1, g_seq10, g_seq11, g_seq12, e_ret1, g_ret10, e_expr1, g_expr10, g_asg20, e_asg1, g_asg10, g_par20, e_par1, g_par10, e_gtup, g_gtup0, e_gs1, g_gs10, g_sub20, e_sub1, g_sub10, g_run10, g_run11, add_ii, ixt0, ixt1, ixt2, len_t0, len_t1, len_t2, len_t3, mkS, List.map_cons, List.map_nil, List.replicate, List.cons_append, List.nil_append, List.length_cons, List.length_nil, Nat.zero_add, Nat.reduceAdd, Nat.reduceBEq, Nat.beq, cond_true, cond_false, nth, setN, at?, oSub, oMul, oDiv, oMod, uNeg, oCmpI, oLt, oLe, oGt, oGe, subS, setAll, bInt, bDivmod, bAbs, bMax2, truM, isTys, isTy, Bool.or_false, Bool.false_or, Bool.true_or, Bool.or_true, Bool.and_true, Bool.true_and, Bool.and_false, Bool.false_and, Bool.not_true, Bool.not_false, eq_str, eq_int, ne_str, ne_int, nat_beq, Int.reduceEq, Int.reduceLT, Int.reduceLE, decide_true, decide_false, reduceCtorEq, slM, cut1])) (show 1 ≤ 16777216 by decide) (fun _ _ _ _ h => h) (fun v hv m1 g => by
        rw [List.mem_singleton.mp hv]
        exact ⟨by simp only [of_some, v_lit, v_var, v_nil, v_dct0, v_none, x_nil, x_cont, y_nm, y_nil, g_bin20, e_bin1, g_bin10, e_un1, g_un10, g_cons20, e_cons1, g_cons10, g_tup20, e_tup1, g_tup10, g_lst20, e_lst1, g_lst10, g_fun20, e_fun1, g_fun10, g_key20, e_key1, g_key10, e_ap1, g_ap10, e_pick, g_pick0, g_pick1, g_pick2, g_pick3, e_sif, e_and1, g_and10, g_and11, e_or1, g_or10, g_or11, e_not1, g_not, g_chain40, g_chain30, g_chain31, g_chain20, e_chain1, g_chain10, e_val1, g_val, e_tru1, g_tru10, e_tand, g_tand0, g_tand1, e_tor, g_tor0, g_tor1, e_tnot, g_tnot, g_isi2, e_isi1, g_isi10, g_sl30, g_sl20, e_sl1, g_sl10, e_part1, g_part10, g_meA0, e_me0, g_me00, g_meB0, e_me1, g_me10, e_seq1, g_seq10, g_seq11, g_seq12, e_ret1, g_ret10, e_expr1, g_expr10, g_asg20, e_asg1, g_asg10, g_par20, e_par1, g_par10, e_gtup, g_gtup0, e_gs1, g_gs10, g_sub20, e_sub1, g_sub10, g_run10, g_run11, add_ii, ixt0, ixt1, ixt2, len_t0, len_t1, len_t2, len_t3, mkS, List.map_cons, List.map_nil, List.replicate, List.cons_append, List.nil_append, List.length_cons, List.length_nil, Nat.zero_add, Nat.reduceAdd, Nat.reduceBEq, Nat.beq, cond_true, cond_false, nth, setN, at?, oSub, oMul, oDiv, oMod, uNeg, oCmpI, oLt, oLe, oGt, oGe, subS, setAll, bInt, bDivmod, bAbs, bMax2, truM, isTys, isTy, Bool.or_false, Bool.false_or, Bool.true_or, Bool.or_true, Bool.and_true, Bool.true_and, Bool.and_false, Bool.false_and, Bool.not_true, Bool.not_false, eq_str, eq_int, ne_str, ne_int, nat_beq, Int.reduceEq, Int.reduceLT, Int.reduceLE, decide_true, decide_false, reduceCtorEq, wipeS]; rfl, fun z => by cases z⟩)
    cases e4
    have pl := plus (e3.keep _ _ get_new_self) e2 (by decide)
    have mx : bMax [.ref m2.n] (m2.new (.lst [.int 0])) = .ok (.int (maxL 0 [])) (m2.new (.lst [.int 0])) := max_l get_new_self rfl
    simp only [List.cons_append, List.nil_append] at pl mx
    exact ⟨m2.new (.lst [.int 0]), by simp only [c__law_deep, of_some, v_lit, v_var, v_nil, v_dct0, v_none, x_nil, x_cont, y_nm, y_nil, g_bin20, e_bin1, g_bin10, e_un1, g_un10, g_cons20, e_cons1, g_cons10, g_tup20, e_tup1, g_tup10, g_lst20, e_lst1, g_lst10, g_fun20, e_fun1, g_fun10, g_key20, e_key1, g_key10, e_ap1, g_ap10, e_pick, g_pick0, g_pick1, g_pick2, g_pick3, e_sif, e_and1, g_and10, g_and11, e_or1, g_or10, g_or11, e_not1, g_not, g_chain40, g_chain30, g_chain31, g_chain20, e_chain1, g_chain10, e_val1, g_val, e_tru1, g_tru10, e_tand, g_tand0, g_tand1, e_tor, g_tor0, g_tor1, e_tnot, g_tnot, g_isi2, e_isi1, g_isi10, g_sl30, g_sl20, e_sl1, g_sl10, e_part1, g_part10, g_meA0, e_me0, g_me00, g_meB0, e_me1, g_me10, e_seq1, g_seq10, g_seq11, g_seq12, e_ret1, g_ret10, e_expr1, g_expr10, g_asg20, e_asg1, g_asg10, g_par20, e_par1, g_par10, e_gtup, g_gtup0, e_gs1, g_gs10, g_sub20, e_sub1, g_sub10, g_run10, g_run11, add_ii, ixt0, ixt1, ixt2, len_t0, len_t1, len_t2, len_t3, mkS, List.map_cons, List.map_nil, List.replicate, List.cons_append, List.nil_append, List.length_cons, List.length_nil, Nat.zero_add, Nat.reduceAdd, Nat.reduceBEq, Nat.beq, cond_true, cond_false, nth, setN, at?, oSub, oMul, oDiv, oMod, uNeg, oCmpI, oLt, oLe, oGt, oGe, subS, setAll, bInt, bDivmod, bAbs, bMax2, truM, isTys, isTy, Bool.or_false, Bool.false_or, Bool.true_or, Bool.or_true, Bool.and_true, Bool.true_and, Bool.and_false, Bool.false_and, Bool.not_true, Bool.not_false, eq_str, eq_int, ne_str, ne_int, nat_beq, Int.reduceEq, Int.reduceLT, Int.reduceLE, decide_true, decide_false, reduceCtorEq, ft1, e1, pl, mx, dp, maxL]; rfl, Grow.trans .new (Grow.trans e3 .new)⟩
  | @one d s h =>
    intro k m hk; obtain ⟨k, rfl⟩ : ∃ j, k = j + 1 := ⟨k - 1, by omega⟩
    rw [show tab bodies (k + 1) 11 = runB 1 1 (c__law_deep (tab bodies k)) from rfl, x_run rfl]
    obtain ⟨ys, m2, e1, e2, e3, e4⟩ := comp_ev (P := Grow) (Q := fun _ v y => True) way_grow (fun _ h => h) (i := 1) (t := tTru (cIsi (cVar 1) [.tuple])) (e := cFun (tab bodies k) 11 1 (aCons (cVar 1) aNil)) (T := isT) (own := [1])
      (ci := iSeqC (cSl (cVar 0) (oPart (cLit (.int 1))) oNone)) (σ := [some (.tup [.str s]), none]) (m := m.new (.lst [.int 0])) (l := []) (e_iseqT (by simp only [of_some, v_lit, v_var, v_nil, v_dct0, v_none, x_nil, x_cont, y_nm, y_nil, g_bin20, e_bin1, g_bin10, e_un1, g_un10, g_cons20, e_cons1, g_cons10, g_tup20, e_tup1, g_tup10, g_lst20, e_lst1, g_lst10, g_fun20, e_fun1, g_fun10, g_key20, e_key1, g_key10, e_ap1, g_ap10, e_pick, g_pick0, g_pick1, g_pick2, g_pick3, e_sif, e_and1, g_and10, g_and11, e_or1, g_or10, g_or11, e_not1, g_not, g_chain40, g_chain30, g_chain31, g_chain20, e_chain1, g_chain10, e_val1, g_val, e_tru1, g_tru10, e_tand, g_tand0, g_tand1, e_tor, g_tor0, g_tor1, e_tnot, g_tnot, g_isi2, e_isi1, g_isi10, g_sl30, g_sl20, e_sl1, g_sl10, e_part1, g_part10, g_meA0, e_me0, g_me00, g_meB0, e_me1, g_me10, e_seq1, g_seq10, g_seq11, g_seq12, e_ret1, g_ret10, e_expr1, g_expr10, g_asg20, e_asg1, g_asg10, g_par20, e_par1, g_par10, e_gtup, g_gtup0, e_gs1, g_gs10, g_sub20, e_sub1, g_sub10, g_run10, g_run11, add_ii, ixt0, ixt1, ixt2, len_t0, len_t1, len_t2, len_t3, mkS, List.map_cons, List.map_nil, List.replicate, List.cons_append, List.nil_append, List.length_cons, List.length_nil, Nat.zero_add, Nat.reduceAdd, Nat.reduceBEq, Nat.beq, cond_true, cond_false, nth, setN, at?, oSub, oMul, oDiv, oMod, uNeg, oCmpI, oLt, oLe, oGt, oGe, subS, setAll, bInt, bDivmod, bAbs, bMax2, truM, isTys, isTy, Bool.or_false, Bool.false_or, Bool.true_or, Bool.or_true, Bool.and_true, Bool.true_and, Bool.and_false, Bool.false_and, Bool.not_true, Bool.not_false, eq_str, eq_int, ne_str, ne_int, nat_beq, Int.reduceEq, Int.reduceLT, Int.reduceLE, decide_true, decide_false, reduceCtorEq, slM, cut1])) (show 0 ≤ 16777216 by decide) (fun _ _ _ _ h => h) (fun v hv m1 g => by cases hv)
    cases e4
    have pl := plus (e3.keep _ _ get_new_self) e2 (by decide)
    have mx : bMax [.ref m2.n] (m2.new (.lst [.int 0])) = .ok (.int (maxL 0 [])) (m2.new (.lst [.int 0])) := max_l get_new_self rfl
    simp only [List.cons_append, List.nil_append] at pl mx
    exact ⟨m2.new (.lst [.int 0]), by simp only [c__law_deep, of_some, v_lit, v_var, v_nil, v_dct0, v_none, x_nil, x_cont, y_nm, y_nil, g_bin20, e_bin1, g_bin10, e_un1, g_un10, g_cons20, e_cons1, g_cons10, g_tup20, e_tup1, g_tup10, g_lst20, e_lst1, g_lst10, g_fun20, e_fun1, g_fun10, g_key20, e_key1, g_key10, e_ap1, g_ap10, e_pick, g_pick0, g_pick1, g_pick2, g_pick3, e_sif, e_and1, g_and10, g_and11, e_or1, g_or10, g_or11, e_not1, g_not, g_chain40, g_chain30, g_chain31, g_chain20, e_chain1, g_chain10, e_val1, g_val, e_tru1, g_tru10, e_tand, g_tand0, g_tand1, e_tor, g_tor0, g_tor1, e_tnot, g_tnot, g_isi2, e_isi1, g_isi10, g_sl30, g_sl20, e_sl1, g_sl10, e_part1, g_part10, g_meA0, e_me0, g_me00, g_meB0, e_me1, g_me10, e_seq1, g_seq10, g_seq11, g_seq12, e_ret1, g_ret10, e_expr1, g_expr10, g_asg20, e_asg1, g_asg10, g_par20, e_par1, g_par10, e_gtup, g_gtup0, e_gs1, g_gs10, g_sub20, e_sub1, g_sub10, g_run10, g_run11, add_ii, ixt0, ixt1, ixt2, len_t0, len_t1, len_t2, len_t3, mkS, List.map_cons, List.map_nil, List.replicate, List.cons_append, List.nil_append, List.length_cons, List.length_nil, Nat.zero_add, Nat.reduceAdd, Nat.reduceBEq, Nat.beq, cond_true, cond_false, nth, setN, at?, oSub, oMul, oDiv, oMod, uNeg, oCmpI, oLt, oLe, oGt, oGe, subS, setAll, bInt, bDivmod, bAbs, bMax2, truM, isTys, isTy, Bool.or_false, Bool.false_or, Bool.true_or, Bool.or_true, Bool.and_true, Bool.true_and, Bool.and_false, Bool.false_and, Bool.not_true, Bool.not_false, eq_str, eq_int, ne_str, ne_int, nat_beq, Int.reduceEq, Int.reduceLT, Int.reduceLE, decide_true, decide_false, reduceCtorEq, ft1, e1, pl, mx, dp, maxL]; rfl, Grow.trans .new (Grow.trans e3 .new)⟩
  | @two d s x y h1 h2 h3 hx hy i1 i2 =>
    intro k m hk; obtain ⟨k, rfl⟩ : ∃ j, k = j + 1 := ⟨k - 1, by omega⟩
    rw [show tab bodies (k + 1) 11 = runB 1 1 (c__law_deep (tab bodies k)) from rfl, x_run rfl]
    obtain ⟨ys, m2, e1, e2, e3, e4⟩ := comp_ev (P := Grow) (Q := fun _ v z => z = .int (dp d v)) way_grow (fun _ h => h) (i := 1) (t := tTru (cIsi (cVar 1) [.tuple])) (e := cFun (tab bodies k) 11 1 (aCons (cVar 1) aNil)) (T := isT) (own := [1])
      (ci := iSeqC (cSl (cVar 0) (oPart (cLit (.int 1))) oNone)) (σ := [some (.tup [.str s, x, y]), none]) (m := m.new (.lst [.int 0])) (l := [x, y]) (e_iseqT (by simp only [of_some, v_lit, v_var, v_nil, v_dct0, v_none, x_nil, x_cont, y_nm, y_nil, g_bin20, e_bin1, g_bin10, e_un1, g_un10, g_cons20, e_cons1, g_cons10, g_tup20, e_tup1, g_tup10, g_lst20, e_lst1, g_lst10, g_fun20, e_fun1, g_fun10, g_key20, e_key1, g_key10, e_ap1, g_ap10, e_pick, g_pick0, g_pick1, g_pick2, g_pick3, e_sif, e_and1, g_and10, g_and11, e_or1, g_or10, g_or11, e_not1, g_not, g_chain40, g_chain30, g_chain31, g_chain20, e_chain1, g_chain10, e_val1, g_val, e_tru1, g_tru10, e_tand, g_tand0, g_tand1, e_tor, g_tor0, g_tor1, e_tnot, g_tnot, g_isi2, e_isi1, g_isi10, g_sl30, g_sl20, e_sl1, g_sl10, e_part1, g_part10, g_meA0, e_me0, g_me00, g_meB0, e_me1, g_me10, e_seq1, g_seq10, g_seq11, g_seq12, e_ret1, g_ret10, e_expr1, g_expr10, g_asg20, e_asg1, g_asg10, g_par20, e_par1, g_par10, e_gtup, g_gtup0, e_gs1, g_gs10, g_sub20, e_sub1, g_sub10, g_run10, g_run11, add_ii, ixt0, ixt1, ixt2, len_t0, len_t1, len_t2, len_t3, mkS, List.map_cons, List.map_nil, List.replicate, List.cons_append, List.nil_append, List.length_cons, List.length_nil, Nat.zero_add, Nat.reduceAdd, Nat.reduceBEq, Nat.beq, cond_true, cond_false, nth, setN, at?, oSub, oMul, oDiv, oMod, uNeg, oCmpI, oLt, oLe, oGt, oGe, subS, setAll, bInt, bDivmod, bAbs, bMax2, truM, isTys, isTy, Bool.or_false, Bool.false_or, Bool.true_or, Bool.or_true, Bool.and_true, Bool.true_and, Bool.and_false, Bool.false_and, Bool.not_true, Bool.not_false, eq_str, eq_int, ne_str, ne_int, nat_beq, Int.reduceEq, Int.reduceLT, Int.reduceLE, decide_true, decide_false, reduceCtorEq, slM, cut1])) (show 2 ≤ 16777216 by decide) (fun _ _ _ _ h => h) (fun v hv m1 g => by
        have key : ∀ {u : MV}, Lk d u → (∀ (k : Nat) (m : M), d ≤ k → ∃ m', tab bodies k 11 [u] m = .ok (.int (dp d u)) m' ∧ Grow m m') → tTru (cIsi (cVar 1) [.tuple]) (setN (some u) (wipeS [some (.tup [.str s, x, y]), none] [1]) 1) m1 = .ok (isT u) m1 ∧ (isT u = true → ∃ z m2, cFun (tab bodies k) 11 1 (aCons (cVar 1) aNil) (setN (some u) (wipeS [some (.tup [.str s, x, y]), none] [1]) 1) m1 = .ok z m2 ∧ Grow m1 m2 ∧ z = .int (dp d u)) := fun {u} hu ih => by
          refine ⟨by cases hu <;> (simp only [of_some, v_lit, v_var, v_nil, v_dct0, v_none, x_nil, x_cont, y_nm, y_nil, g_bin20, e_bin1, g_bin10, e_un1, g_un10, g_cons20, e_cons1, g_cons10, g_tup20, e_tup1, g_tup10, g_lst20, e_lst1, g_lst10, g_fun20, e_fun1, g_fun10, g_key20, e_key1, g_key10, e_ap1, g_ap10, e_pick, g_pick0, g_pick1, g_pick2, g_pick3, e_sif, e_and1, g_and10, g_and11, e_or1, g_or10, g_or11, e_not1, g_not, g_chain40, g_chain30, g_chain31, g_chain20, e_chain1, g_chain10, e_val1, g_val, e_tru1, g_tru10, e_tand, g_tand0, g_tand1, e_tor, g_tor0, g_tor1, e_tnot, g_tnot, g_isi2, e_isi1, g_isi10, g_sl30, g_sl20, e_sl1, g_sl10, e_part1, g_part10, g_meA0, e_me0, g_me00, g_meB0, e_me1, g_me10, e_seq1, g_seq10, g_seq11, g_seq12, e_ret1, g_ret10, e_expr1, g_expr10, g_asg20, e_asg1, g_asg10, g_par20, e_par1, g_par10, e_gtup, g_gtup0, e_gs1, g_gs10, g_sub20, e_sub1, g_sub10, g_run10, g_run11, add_ii, ixt0, ixt1, ixt2, len_t0, len_t1, len_t2, len_t3, mkS, List.map_cons, List.map_nil, List.replicate, List.cons_append, List.nil_append, List.length_cons, List.length_nil, Nat.zero_add, Nat.reduceAdd, Nat.reduceBEq, Nat.beq, cond_true, cond_false, nth, setN, at?, oSub, oMul, oDiv, oMod, uNeg, oCmpI, oLt, oLe, oGt, oGe, subS, setAll, bInt, bDivmod, bAbs, bMax2, truM, isTys, isTy, Bool.or_false, Bool.false_or, Bool.true_or, Bool.or_true, Bool.and_true, Bool.true_and, Bool.and_false, Bool.false_and, Bool.not_true, Bool.not_false, eq_str, eq_int, ne_str, ne_int, nat_beq, Int.reduceEq, Int.reduceLT, Int.reduceLE, decide_true, decide_false, reduceCtorEq, wipeS]; rfl), fun _ => ?_⟩
          obtain ⟨m2, z, gr⟩ := ih k m1 (by omega)
          exact ⟨_, m2, by simp only [of_some, v_lit, v_var, v_nil, v_dct0, v_none, x_nil, x_cont, y_nm, y_nil, g_bin20, e_bin1, g_bin10, e_un1, g_un10, g_cons20, e_cons1, g_cons10, g_tup20, e_tup1, g_tup10, g_lst20, e_lst1, g_lst10, g_fun20, e_fun1, g_fun10, g_key20, e_key1, g_key10, e_ap1, g_ap10, e_pick, g_pick0, g_pick1, g_pick2, g_pick3, e_sif, e_and1, g_and10, g_and11, e_or1, g_or10, g_or11, e_not1, g_not, g_chain40, g_chain30, g_chain31, g_chain20, e_chain1, g_chain10, e_val1, g_val, e_tru1, g_tru10, e_tand, g_tand0, g_tand1, e_tor, g_tor0, g_tor1, e_tnot, g_tnot, g_isi2, e_isi1, g_isi10, g_sl30, g_sl20, e_sl1, g_sl10, e_part1, g_part10, g_meA0, e_me0, g_me00, g_meB0, e_me1, g_me10, e_seq1, g_seq10, g_seq11, g_seq12, e_ret1, g_ret10, e_expr1, g_expr10, g_asg20, e_asg1, g_asg10, g_par20, e_par1, g_par10, e_gtup, g_gtup0, e_gs1, g_gs10, g_sub20, e_sub1, g_sub10, g_run10, g_run11, add_ii, ixt0, ixt1, ixt2, len_t0, len_t1, len_t2, len_t3, mkS, List.map_cons, List.map_nil, List.replicate, List.cons_append, List.nil_append, List.length_cons, List.length_nil, Nat.zero_add, Nat.reduceAdd, Nat.reduceBEq, Nat.beq, cond_true, cond_false, nth, setN, at?, oSub, oMul, oDiv, oMod, uNeg, oCmpI, oLt, oLe, oGt, oGe, subS, setAll, bInt, bDivmod, bAbs, bMax2, truM, isTys, isTy, Bool.or_false, Bool.false_or, Bool.true_or, Bool.or_true, Bool.and_true, Bool.true_and, Bool.and_false, Bool.false_and, Bool.not_true, Bool.not_false, eq_str, eq_int, ne_str, ne_int, nat_beq, Int.reduceEq, Int.reduceLT, Int.reduceLE, decide_true, decide_false, reduceCtorEq, wipeS, z], gr, rfl⟩
        rcases List.mem_cons.mp hv with rfl | hv
        · exact key hx i1
        · rw [List.mem_singleton.mp hv]; exact key hy i2)
    rw [List.filter_cons_of_pos hx.isT, List.filter_cons_of_pos hy.isT, List.filter_nil] at e4
    cases e4 with
    | cons g1 e4 => cases e4 with
      | cons g2 e4 =>
        cases e4
        subst g1 g2
        have pl := plus (e3.keep _ _ get_new_self) e2 (show 3 ≤ 16777216 by decide)
        have p1 := dp_pos d x
        have p2 := dp_pos d y
        have mm : maxL 0 [dp d x, dp d y] = max (dp d x) (dp d y) := by
          simp only [maxL]
          rw [if_pos (show 0 < dp d x by omega)]
          split <;> omega
        have mx : bMax [.ref m2.n] (m2.new (.lst ([.int 0] ++ [.int (dp d x), .int (dp d y)]))) = .ok (.int (max (dp d x) (dp d y))) (m2.new (.lst ([.int 0] ++ [.int (dp d x), .int (dp d y)]))) := by
          rw [← mm]; exact max_l get_new_self rfl
        simp only [List.cons_append, List.nil_append] at pl mx
        exact ⟨m2.new (.lst [.int 0, .int (dp d x), .int (dp d y)]), by simp only [c__law_deep, of_some, v_lit, v_var, v_nil, v_dct0, v_none, x_nil, x_cont, y_nm, y_nil, g_bin20, e_bin1, g_bin10, e_un1, g_un10, g_cons20, e_cons1, g_cons10, g_tup20, e_tup1, g_tup10, g_lst20, e_lst1, g_lst10, g_fun20, e_fun1, g_fun10, g_key20, e_key1, g_key10, e_ap1, g_ap10, e_pick, g_pick0, g_pick1, g_pick2, g_pick3, e_sif, e_and1, g_and10, g_and11, e_or1, g_or10, g_or11, e_not1, g_not, g_chain40, g_chain30, g_chain31, g_chain20, e_chain1, g_chain10, e_val1, g_val, e_tru1, g_tru10, e_tand, g_tand0, g_tand1, e_tor, g_tor0, g_tor1, e_tnot, g_tnot, g_isi2, e_isi1, g_isi10, g_sl30, g_sl20, e_sl1, g_sl10, e_part1, g_part10, g_meA0, e_me0, g_me00, g_meB0, e_me1, g_me10, e_seq1, g_seq10, g_seq11, g_seq12, e_ret1, g_ret10, e_expr1, g_expr10, g_asg20, e_asg1, g_asg10, g_par20, e_par1, g_par10, e_gtup, g_gtup0, e_gs1, g_gs10, g_sub20, e_sub1, g_sub10, g_run10, g_run11, add_ii, ixt0, ixt1, ixt2, len_t0, len_t1, len_t2, len_t3, mkS, List.map_cons, List.map_nil, List.replicate, List.cons_append, List.nil_append, List.length_cons, List.length_nil, Nat.zero_add, Nat.reduceAdd, Nat.reduceBEq, Nat.beq, cond_true, cond_false, nth, setN, at?, oSub, oMul, oDiv, oMod, uNeg, oCmpI, oLt, oLe, oGt, oGe, subS, setAll, bInt, bDivmod, bAbs, bMax2, truM, isTys, isTy, Bool.or_false, Bool.false_or, Bool.true_or, Bool.or_true, Bool.and_true, Bool.true_and, Bool.and_false, Bool.false_and, Bool.not_true, Bool.not_false, eq_str, eq_int, ne_str, ne_int, nat_beq, Int.reduceEq, Int.reduceLT, Int.reduceLE, decide_true, decide_false, reduceCtorEq, ft1, e1, pl, mx, dp, h3], Grow.trans .new (Grow.trans e3 .new)⟩
/-- what the law expects of a value -/
def due (v : MV) : Bool := lk 12 v && decide (sg 12 v ≤ 60)
theorem due_ok {a : Nat} {m : M} {v : MV} {w h : Nat} (n : Nice a m [v] w h) (hw : w ≤ 600000) (hh : h < 50) (k : Nat) (hk : 60 ≤ k) : ∃ m', tab bodies k 13 [v] m = .ok (.bl (due v)) m' ∧ Grow m m' := by
  obtain ⟨k, rfl⟩ : ∃ j, k = j + 1 := ⟨k - 1, by omega⟩
  rw [show tab bodies (k + 1) 13 = runB 1 0 (c__law_is_kind (tab bodies k)) from rfl, x_run rfl]
  obtain ⟨m1, e1, g1⟩ := look_ok 50 n hh hw k (by omega)
  have ag := agree (f := 50) (by decide) v
  unfold due
  rw [← ag]
  cases q : lk 50 v with
  | false => exact ⟨m1, by simp only [c__law_is_kind, of_some, v_lit, v_var, v_nil, v_dct0, v_none, x_nil, x_cont, y_nm, y_nil, g_bin20, e_bin1, g_bin10, e_un1, g_un10, g_cons20, e_cons1, g_cons10, g_tup20, e_tup1, g_tup10, g_lst20, e_lst1, g_lst10, g_fun20, e_fun1, g_fun10, g_key20, e_key1, g_key10, e_ap1, g_ap10, e_pick, g_pick0, g_pick1, g_pick2, g_pick3, e_sif, e_and1, g_and10, g_and11, e_or1, g_or10, g_or11, e_not1, g_not, g_chain40, g_chain30, g_chain31, g_chain20, e_chain1, g_chain10, e_val1, g_val, e_tru1, g_tru10, e_tand, g_tand0, g_tand1, e_tor, g_tor0, g_tor1, e_tnot, g_tnot, g_isi2, e_isi1, g_isi10, g_sl30, g_sl20, e_sl1, g_sl10, e_part1, g_part10, g_meA0, e_me0, g_me00, g_meB0, e_me1, g_me10, e_seq1, g_seq10, g_seq11, g_seq12, e_ret1, g_ret10, e_expr1, g_expr10, g_asg20, e_asg1, g_asg10, g_par20, e_par1, g_par10, e_gtup, g_gtup0, e_gs1, g_gs10, g_sub20, e_sub1, g_sub10, g_run10, g_run11, add_ii, ixt0, ixt1, ixt2, len_t0, len_t1, len_t2, len_t3, mkS, List.map_cons, List.map_nil, List.replicate, List.cons_append, List.nil_append, List.length_cons, List.length_nil, Nat.zero_add, Nat.reduceAdd, Nat.reduceBEq, Nat.beq, cond_true, cond_false, nth, setN, at?, oSub, oMul, oDiv, oMod, uNeg, oCmpI, oLt, oLe, oGt, oGe, subS, setAll, bInt, bDivmod, bAbs, bMax2, truM, isTys, isTy, Bool.or_false, Bool.false_or, Bool.true_or, Bool.or_true, Bool.and_true, Bool.true_and, Bool.and_false, Bool.false_and, Bool.not_true, Bool.not_false, eq_str, eq_int, ne_str, ne_int, nat_beq, Int.reduceEq, Int.reduceLT, Int.reduceLE, decide_true, decide_false, reduceCtorEq, e1, q], g1⟩
  | true =>
    obtain ⟨m2, e2, g2⟩ := lsigns_ok (lk_iff q) k m1 (by omega)
    cases q2 : decide (sg 50 v ≤ 60) with
    | false => exact ⟨m2, by simp only [c__law_is_kind, of_some, v_lit, v_var, v_nil, v_dct0, v_none, x_nil, x_cont, y_nm, y_nil, g_bin20, e_bin1, g_bin10, e_un1, g_un10, g_cons20, e_cons1, g_cons10, g_tup20, e_tup1, g_tup10, g_lst20, e_lst1, g_lst10, g_fun20, e_fun1, g_fun10, g_key20, e_key1, g_key10, e_ap1, g_ap10, e_pick, g_pick0, g_pick1, g_pick2, g_pick3, e_sif, e_and1, g_and10, g_and11, e_or1, g_or10, g_or11, e_not1, g_not, g_chain40, g_chain30, g_chain31, g_chain20, e_chain1, g_chain10, e_val1, g_val, e_tru1, g_tru10, e_tand, g_tand0, g_tand1, e_tor, g_tor0, g_tor1, e_tnot, g_tnot, g_isi2, e_isi1, g_isi10, g_sl30, g_sl20, e_sl1, g_sl10, e_part1, g_part10, g_meA0, e_me0, g_me00, g_meB0, e_me1, g_me10, e_seq1, g_seq10, g_seq11, g_seq12, e_ret1, g_ret10, e_expr1, g_expr10, g_asg20, e_asg1, g_asg10, g_par20, e_par1, g_par10, e_gtup, g_gtup0, e_gs1, g_gs10, g_sub20, e_sub1, g_sub10, g_run10, g_run11, add_ii, ixt0, ixt1, ixt2, len_t0, len_t1, len_t2, len_t3, mkS, List.map_cons, List.map_nil, List.replicate, List.cons_append, List.nil_append, List.length_cons, List.length_nil, Nat.zero_add, Nat.reduceAdd, Nat.reduceBEq, Nat.beq, cond_true, cond_false, nth, setN, at?, oSub, oMul, oDiv, oMod, uNeg, oCmpI, oLt, oLe, oGt, oGe, subS, setAll, bInt, bDivmod, bAbs, bMax2, truM, isTys, isTy, Bool.or_false, Bool.false_or, Bool.true_or, Bool.or_true, Bool.and_true, Bool.true_and, Bool.and_false, Bool.false_and, Bool.not_true, Bool.not_false, eq_str, eq_int, ne_str, ne_int, nat_beq, Int.reduceEq, Int.reduceLT, Int.reduceLE, decide_true, decide_false, reduceCtorEq, e1, e2, q, q2], g1.trans g2⟩
    | true =>
      obtain ⟨m3, e3, g3⟩ := ldeep_ok (lk_iff q) k m2 (by omega)
      exact ⟨m3, by simp only [c__law_is_kind, of_some, v_lit, v_var, v_nil, v_dct0, v_none, x_nil, x_cont, y_nm, y_nil, g_bin20, e_bin1, g_bin10, e_un1, g_un10, g_cons20, e_cons1, g_cons10, g_tup20, e_tup1, g_tup10, g_lst20, e_lst1, g_lst10, g_fun20, e_fun1, g_fun10, g_key20, e_key1, g_key10, e_ap1, g_ap10, e_pick, g_pick0, g_pick1, g_pick2, g_pick3, e_sif, e_and1, g_and10, g_and11, e_or1, g_or10, g_or11, e_not1, g_not, g_chain40, g_chain30, g_chain31, g_chain20, e_chain1, g_chain10, e_val1, g_val, e_tru1, g_tru10, e_tand, g_tand0, g_tand1, e_tor, g_tor0, g_tor1, e_tnot, g_tnot, g_isi2, e_isi1, g_isi10, g_sl30, g_sl20, e_sl1, g_sl10, e_part1, g_part10, g_meA0, e_me0, g_me00, g_meB0, e_me1, g_me10, e_seq1, g_seq10, g_seq11, g_seq12, e_ret1, g_ret10, e_expr1, g_expr10, g_asg20, e_asg1, g_asg10, g_par20, e_par1, g_par10, e_gtup, g_gtup0, e_gs1, g_gs10, g_sub20, e_sub1, g_sub10, g_run10, g_run11, add_ii, ixt0, ixt1, ixt2, len_t0, len_t1, len_t2, len_t3, mkS, List.map_cons, List.map_nil, List.replicate, List.cons_append, List.nil_append, List.length_cons, List.length_nil, Nat.zero_add, Nat.reduceAdd, Nat.reduceBEq, Nat.beq, cond_true, cond_false, nth, setN, at?, oSub, oMul, oDiv, oMod, uNeg, oCmpI, oLt, oLe, oGt, oGe, subS, setAll, bInt, bDivmod, bAbs, bMax2, truM, isTys, isTy, Bool.or_false, Bool.false_or, Bool.true_or, Bool.or_true, Bool.and_true, Bool.true_and, Bool.and_false, Bool.false_and, Bool.not_true, Bool.not_false, eq_str, eq_int, ne_str, ne_int, nat_beq, Int.reduceEq, Int.reduceLT, Int.reduceLE, decide_true, decide_false, reduceCtorEq, e1, e2, e3, q, q2], g1.trans (g2.trans g3)⟩
end W_k11

set_option Elab.async false
set_option linter.all false
set_option maxRecDepth 100000
set_option maxHeartbeats 1000000
namespace W_k11
open PySem Mini
theorem pow18 {m : M} : oPow (.int 10) (.int 18) m = .ok (.int 1000000000000000000) m := rfl
theorem pow20 {m : M} : oPow (.int 10) (.int 20) m = .ok (.int 100000000000000000000) m := rfl
theorem add_new {m : M} {o : MO} : (m.new o).n = m.n + 1 := rfl
theorem pot_ok {b : Nat} {m : M} {ns : List Int} (g : m.get b = some (.frz (ns.map .int))) (i : Nat) (k : Nat) (hk : 1 ≤ k) :
    ∃ big st : Int, tab bodies k 6 [.ref b, .int i] m = .ok (.ref m.n) (m.new (.lst [.int big, .int st])) ∧ 0 ≤ big ∧ 0 ≤ st ∧ st < 2147483648 := by
  obtain ⟨k, rfl⟩ : ∃ j, k = j + 1 := ⟨k - 1, by omega⟩
  have key : ∀ cell : Int, 0 ≤ cell → ∃ big st : Int, (seq1 (.ok (.nx [some (.ref b), some (.int i), some (.int cell)]) m) (sRet (cLst (aCons (cAp bMax2 (aCons (cLit (.int 0)) (aCons (cBin oSub (cVar 2) (cBin oPow (cLit (.int 10)) (cLit (.int 18)))) aNil))) (aCons (cBin oAdd (cBin oMod (cAp bInt (aCons (cBin oAdd (cBin oAdd (cBin oMul (cBin oMod (cAp bInt (aCons (cVar 2) aNil)) (cLit (.int 2147483549))) (cLit (.int 40014))) (cBin oMul (cLit (.int 9209)) (cVar 1))) (cLit (.int 61))) aNil)) (cLit (.int 2147483563))) (cLit (.int 1))) aNil))))) = .ok (.rt (.ref m.n)) (m.new (.lst [.int big, .int st])) ∧ 0 ≤ big ∧ 0 ≤ st ∧ st < 2147483648 := fun cell hc => by
    have q1 : 0 ≤ (cell % 2147483549 * 40014 + 9209 * (i : Int) + 61) % 2147483563 := Int.emod_nonneg _ (by decide)
    have q2 : (cell % 2147483549 * 40014 + 9209 * (i : Int) + 61) % 2147483563 < 2147483563 := Int.emod_lt_of_pos _ (by decide)
    refine ⟨if cell - 1000000000000000000 > 0 then cell - 1000000000000000000 else 0, (cell % 2147483549 * 40014 + 9209 * (i : Int) + 61) % 2147483563 + 1, ?_, ?_, by omega, by omega⟩
    · simp only [of_some, v_lit, v_var, v_nil, v_dct0, v_none, x_nil, x_cont, y_nm, y_nil, g_bin20, e_bin1, g_bin10, e_un1, g_un10, g_cons20, e_cons1, g_cons10, g_tup20, e_tup1, g_tup10, g_lst20, e_lst1, g_lst10, g_fun20, e_fun1, g_fun10, g_key20, e_key1, g_key10, e_ap1, g_ap10, e_pick, g_pick0, g_pick1, g_pick2, g_pick3, e_sif, e_and1, g_and10, g_and11, e_or1, g_or10, g_or11, e_not1, g_not, g_chain40, g_chain30, g_chain31, g_chain20, e_chain1, g_chain10, e_val1, g_val, e_tru1, g_tru10, e_tand, g_tand0, g_tand1, e_tor, g_tor0, g_tor1, e_tnot, g_tnot, g_isi2, e_isi1, g_isi10, g_sl30, g_sl20, e_sl1, g_sl10, e_part1, g_part10, g_meA0, e_me0, g_me00, g_meB0, e_me1, g_me10, e_seq1, g_seq10, g_seq11, g_seq12, e_ret1, g_ret10, e_expr1, g_expr10, g_asg20, e_asg1, g_asg10, g_par20, e_par1, g_par10, e_gtup, g_gtup0, e_gs1, g_gs10, g_sub20, e_sub1, g_sub10, g_run10, g_run11, add_ii, ixt0, ixt1, ixt2, len_t0, len_t1, len_t2, len_t3, mkS, List.map_cons, List.map_nil, List.replicate, List.cons_append, List.nil_append, List.length_cons, List.length_nil, Nat.zero_add, Nat.reduceAdd, Nat.reduceBEq, Nat.beq, cond_true, cond_false, nth, setN, at?, oSub, oMul, oDiv, oMod, uNeg, oCmpI, oLt, oLe, oGt, oGe, subS, setAll, bInt, bDivmod, bAbs, bMax2, truM, isTys, isTy, Bool.or_false, Bool.false_or, Bool.true_or, Bool.or_true, Bool.and_true, Bool.true_and, Bool.and_false, Bool.false_and, Bool.not_true, Bool.not_false, eq_str, eq_int, ne_str, ne_int, nat_beq, Int.reduceEq, Int.reduceLT, Int.reduceLE, decide_true, decide_false, reduceCtorEq, pow18, show posInt 2147483549 = true from rfl, show posInt 2147483563 = true from rfl, show small64 40014 = true from rfl, show small64 9209 = true from rfl, ft2]
    · split <;> omega
  rw [show tab bodies (k + 1) 6 = runB 2 1 (c__law_pot (tab bodies k)) from rfl, x_run rfl]
  have ln := len_f g
  rw [List.length_map] at ln
  by_cases h : i < ns.length
  · obtain ⟨x, e1, e2⟩ := ix_f g (r := i) (by rw [List.length_map]; exact h)
    obtain ⟨z, rfl⟩ : ∃ z : Int, x = .int z := by
      rw [at?_eq, List.getElem?_map] at e2
      cases q : ns[i]? with
      | none => rw [q] at e2; cases e2
      | some z => rw [q] at e2; exact ⟨z, (Option.some.inj e2).symm⟩
    obtain ⟨big, st, e3, r⟩ := key (if z < 0 then -z else z) (by split <;> omega)
    have d : decide ((i : Int) < (ns.length : Int)) = true := decide_eq_true (by omega)
    exact ⟨big, st, by simp only [of_some, v_lit, v_var, v_nil, v_dct0, v_none, x_nil, x_cont, y_nm, y_nil, g_bin20, e_bin1, g_bin10, e_un1, g_un10, g_cons20, e_cons1, g_cons10, g_tup20, e_tup1, g_tup10, g_lst20, e_lst1, g_lst10, g_fun20, e_fun1, g_fun10, g_key20, e_key1, g_key10, e_ap1, g_ap10, e_pick, g_pick0, g_pick1, g_pick2, g_pick3, e_sif, e_and1, g_and10, g_and11, e_or1, g_or10, g_or11, e_not1, g_not, g_chain40, g_chain30, g_chain31, g_chain20, e_chain1, g_chain10, e_val1, g_val, e_tru1, g_tru10, e_tand, g_tand0, g_tand1, e_tor, g_tor0, g_tor1, e_tnot, g_tnot, g_isi2, e_isi1, g_isi10, g_sl30, g_sl20, e_sl1, g_sl10, e_part1, g_part10, g_meA0, e_me0, g_me00, g_meB0, e_me1, g_me10, e_seq1, g_seq10, g_seq11, g_seq12, e_ret1, g_ret10, e_expr1, g_expr10, g_asg20, e_asg1, g_asg10, g_par20, e_par1, g_par10, e_gtup, g_gtup0, e_gs1, g_gs10, g_sub20, e_sub1, g_sub10, g_run10, g_run11, add_ii, ixt0, ixt1, ixt2, len_t0, len_t1, len_t2, len_t3, mkS, List.map_cons, List.map_nil, List.replicate, List.cons_append, List.nil_append, List.length_cons, List.length_nil, Nat.zero_add, Nat.reduceAdd, Nat.reduceBEq, Nat.beq, cond_true, cond_false, nth, setN, at?, oSub, oMul, oDiv, oMod, uNeg, oCmpI, oLt, oLe, oGt, oGe, subS, setAll, bInt, bDivmod, bAbs, bMax2, truM, isTys, isTy, Bool.or_false, Bool.false_or, Bool.true_or, Bool.or_true, Bool.and_true, Bool.true_and, Bool.and_false, Bool.false_and, Bool.not_true, Bool.not_false, eq_str, eq_int, ne_str, ne_int, nat_beq, Int.reduceEq, Int.reduceLT, Int.reduceLE, decide_true, decide_false, reduceCtorEq] at e3; simp only [c__law_pot, of_some, v_lit, v_var, v_nil, v_dct0, v_none, x_nil, x_cont, y_nm, y_nil, g_bin20, e_bin1, g_bin10, e_un1, g_un10, g_cons20, e_cons1, g_cons10, g_tup20, e_tup1, g_tup10, g_lst20, e_lst1, g_lst10, g_fun20, e_fun1, g_fun10, g_key20, e_key1, g_key10, e_ap1, g_ap10, e_pick, g_pick0, g_pick1, g_pick2, g_pick3, e_sif, e_and1, g_and10, g_and11, e_or1, g_or10, g_or11, e_not1, g_not, g_chain40, g_chain30, g_chain31, g_chain20, e_chain1, g_chain10, e_val1, g_val, e_tru1, g_tru10, e_tand, g_tand0, g_tand1, e_tor, g_tor0, g_tor1, e_tnot, g_tnot, g_isi2, e_isi1, g_isi10, g_sl30, g_sl20, e_sl1, g_sl10, e_part1, g_part10, g_meA0, e_me0, g_me00, g_meB0, e_me1, g_me10, e_seq1, g_seq10, g_seq11, g_seq12, e_ret1, g_ret10, e_expr1, g_expr10, g_asg20, e_asg1, g_asg10, g_par20, e_par1, g_par10, e_gtup, g_gtup0, e_gs1, g_gs10, g_sub20, e_sub1, g_sub10, g_run10, g_run11, add_ii, ixt0, ixt1, ixt2, len_t0, len_t1, len_t2, len_t3, mkS, List.map_cons, List.map_nil, List.replicate, List.cons_append, List.nil_append, List.length_cons, List.length_nil, Nat.zero_add, Nat.reduceAdd, Nat.reduceBEq, Nat.beq, cond_true, cond_false, nth, setN, at?, oSub, oMul, oDiv, oMod, uNeg, oCmpI, oLt, oLe, oGt, oGe, subS, setAll, bInt, bDivmod, bAbs, bMax2, truM, isTys, isTy, Bool.or_false, Bool.false_or, Bool.true_or, Bool.or_true, Bool.and_true, Bool.true_and, Bool.and_false, Bool.false_and, Bool.not_true, Bool.not_false, eq_str, eq_int, ne_str, ne_int, nat_beq, Int.reduceEq, Int.reduceLT, Int.reduceLE, decide_true, decide_false, reduceCtorEq, show small64 1013 = true from rfl, ln, d, e1, e3], r⟩
  · obtain ⟨big, st, e3, r⟩ := key (1013 * i + 9209) (by omega)
    have d : decide ((i : Int) < (ns.length : Int)) = false := decide_eq_false (by omega)
    exact ⟨big, st, by simp only [of_some, v_lit, v_var, v_nil, v_dct0, v_none, x_nil, x_cont, y_nm, y_nil, g_bin20, e_bin1, g_bin10, e_un1, g_un10, g_cons20, e_cons1, g_cons10, g_tup20, e_tup1, g_tup10, g_lst20, e_lst1, g_lst10, g_fun20, e_fun1, g_fun10, g_key20, e_key1, g_key10, e_ap1, g_ap10, e_pick, g_pick0, g_pick1, g_pick2, g_pick3, e_sif, e_and1, g_and10, g_and11, e_or1, g_or10, g_or11, e_not1, g_not, g_chain40, g_chain30, g_chain31, g_chain20, e_chain1, g_chain10, e_val1, g_val, e_tru1, g_tru10, e_tand, g_tand0, g_tand1, e_tor, g_tor0, g_tor1, e_tnot, g_tnot, g_isi2, e_isi1, g_isi10, g_sl30, g_sl20, e_sl1, g_sl10, e_part1, g_part10, g_meA0, e_me0, g_me00, g_meB0, e_me1, g_me10, e_seq1, g_seq10, g_seq11, g_seq12, e_ret1, g_ret10, e_expr1, g_expr10, g_asg20, e_asg1, g_asg10, g_par20, e_par1, g_par10, e_gtup, g_gtup0, e_gs1, g_gs10, g_sub20, e_sub1, g_sub10, g_run10, g_run11, add_ii, ixt0, ixt1, ixt2, len_t0, len_t1, len_t2, len_t3, mkS, List.map_cons, List.map_nil, List.replicate, List.cons_append, List.nil_append, List.length_cons, List.length_nil, Nat.zero_add, Nat.reduceAdd, Nat.reduceBEq, Nat.beq, cond_true, cond_false, nth, setN, at?, oSub, oMul, oDiv, oMod, uNeg, oCmpI, oLt, oLe, oGt, oGe, subS, setAll, bInt, bDivmod, bAbs, bMax2, truM, isTys, isTy, Bool.or_false, Bool.false_or, Bool.true_or, Bool.or_true, Bool.and_true, Bool.true_and, Bool.and_false, Bool.false_and, Bool.not_true, Bool.not_false, eq_str, eq_int, ne_str, ne_int, nat_beq, Int.reduceEq, Int.reduceLT, Int.reduceLE, decide_true, decide_false, reduceCtorEq] at e3; simp only [c__law_pot, of_some, v_lit, v_var, v_nil, v_dct0, v_none, x_nil, x_cont, y_nm, y_nil, g_bin20, e_bin1, g_bin10, e_un1, g_un10, g_cons20, e_cons1, g_cons10, g_tup20, e_tup1, g_tup10, g_lst20, e_lst1, g_lst10, g_fun20, e_fun1, g_fun10, g_key20, e_key1, g_key10, e_ap1, g_ap10, e_pick, g_pick0, g_pick1, g_pick2, g_pick3, e_sif, e_and1, g_and10, g_and11, e_or1, g_or10, g_or11, e_not1, g_not, g_chain40, g_chain30, g_chain31, g_chain20, e_chain1, g_chain10, e_val1, g_val, e_tru1, g_tru10, e_tand, g_tand0, g_tand1, e_tor, g_tor0, g_tor1, e_tnot, g_tnot, g_isi2, e_isi1, g_isi10, g_sl30, g_sl20, e_sl1, g_sl10, e_part1, g_part10, g_meA0, e_me0, g_me00, g_meB0, e_me1, g_me10, e_seq1, g_seq10, g_seq11, g_seq12, e_ret1, g_ret10, e_expr1, g_expr10, g_asg20, e_asg1, g_asg10, g_par20, e_par1, g_par10, e_gtup, g_gtup0, e_gs1, g_gs10, g_sub20, e_sub1, g_sub10, g_run10, g_run11, add_ii, ixt0, ixt1, ixt2, len_t0, len_t1, len_t2, len_t3, mkS, List.map_cons, List.map_nil, List.replicate, List.cons_append, List.nil_append, List.length_cons, List.length_nil, Nat.zero_add, Nat.reduceAdd, Nat.reduceBEq, Nat.beq, cond_true, cond_false, nth, setN, at?, oSub, oMul, oDiv, oMod, uNeg, oCmpI, oLt, oLe, oGt, oGe, subS, setAll, bInt, bDivmod, bAbs, bMax2, truM, isTys, isTy, Bool.or_false, Bool.false_or, Bool.true_or, Bool.or_true, Bool.and_true, Bool.true_and, Bool.and_false, Bool.false_and, Bool.not_true, Bool.not_false, eq_str, eq_int, ne_str, ne_int, nat_beq, Int.reduceEq, Int.reduceLT, Int.reduceLE, decide_true, decide_false, reduceCtorEq, show small64 1013 = true from rfl, ln, d, e3], r⟩
theorem pick_ok {a b : Nat} {m : M} {l : List MV} (p : Pot a m) (g : m.get b = some (.lst l)) (ne : b ≠ a) (h0 : 0 < l.length) (h1 : l.length < 1073741824) (k : Nat) (hk : 2 ≤ k) :
    ∃ x m', tab bodies k 8 [.ref a, .ref b] m = .ok x m' ∧ (∃ r, at? l r = some x) ∧ Pot a m' ∧ Ext a m m' := by
  obtain ⟨k, rfl⟩ : ∃ j, k = j + 2 := ⟨k - 2, by omega⟩
  obtain ⟨r, m', z, p', x', r0, r1⟩ := draw_ok p (many := l.length) (by omega) (by omega) k
  obtain ⟨x, e1, e2⟩ := ix_l (x'.keep b _ ne g) r0 r1
  refine ⟨x, m', ?_, ⟨_, e2⟩, p', x'⟩
  rw [show tab bodies (k + 2) 8 = runB 2 0 (c__law_pick (tab bodies (k + 1))) from rfl, x_run rfl]
  simp only [c__law_pick, of_some, v_lit, v_var, v_nil, v_dct0, v_none, x_nil, x_cont, y_nm, y_nil, g_bin20, e_bin1, g_bin10, e_un1, g_un10, g_cons20, e_cons1, g_cons10, g_tup20, e_tup1, g_tup10, g_lst20, e_lst1, g_lst10, g_fun20, e_fun1, g_fun10, g_key20, e_key1, g_key10, e_ap1, g_ap10, e_pick, g_pick0, g_pick1, g_pick2, g_pick3, e_sif, e_and1, g_and10, g_and11, e_or1, g_or10, g_or11, e_not1, g_not, g_chain40, g_chain30, g_chain31, g_chain20, e_chain1, g_chain10, e_val1, g_val, e_tru1, g_tru10, e_tand, g_tand0, g_tand1, e_tor, g_tor0, g_tor1, e_tnot, g_tnot, g_isi2, e_isi1, g_isi10, g_sl30, g_sl20, e_sl1, g_sl10, e_part1, g_part10, g_meA0, e_me0, g_me00, g_meB0, e_me1, g_me10, e_seq1, g_seq10, g_seq11, g_seq12, e_ret1, g_ret10, e_expr1, g_expr10, g_asg20, e_asg1, g_asg10, g_par20, e_par1, g_par10, e_gtup, g_gtup0, e_gs1, g_gs10, g_sub20, e_sub1, g_sub10, g_run10, g_run11, add_ii, ixt0, ixt1, ixt2, len_t0, len_t1, len_t2, len_t3, mkS, List.map_cons, List.map_nil, List.replicate, List.cons_append, List.nil_append, List.length_cons, List.length_nil, Nat.zero_add, Nat.reduceAdd, Nat.reduceBEq, Nat.beq, cond_true, cond_false, nth, setN, at?, oSub, oMul, oDiv, oMod, uNeg, oCmpI, oLt, oLe, oGt, oGe, subS, setAll, bInt, bDivmod, bAbs, bMax2, truM, isTys, isTy, Bool.or_false, Bool.false_or, Bool.true_or, Bool.or_true, Bool.and_true, Bool.true_and, Bool.and_false, Bool.false_and, Bool.not_true, Bool.not_false, eq_str, eq_int, ne_str, ne_int, nat_beq, Int.reduceEq, Int.reduceLT, Int.reduceLE, decide_true, decide_false, reduceCtorEq, len_l g, z, e1]
/-- what the law builds -/
inductive Kn : Nat → MV → Prop
  | one {d : Nat} : Kn d (.tup [.str "one"])
  | let_ {d : Nat} {i : Int} : 0 ≤ i → i < 6 → Kn d (.tup [.str "letter", .int i])
  | two {d : Nat} {s : Str} {x y : MV} : (s = "fun" ∨ s = "pair" ∨ s = "sum") → Kn d x → Kn d y → Kn (d + 1) (.tup [.str s, x, y])
theorem Kn.up {d : Nat} {v : MV} (h : Kn d v) : ∀ f : Nat, d ≤ f → Kn f v := by
  induction h with
  | one => intro f _; exact .one
  | let_ a b => intro f _; exact .let_ a b
  | two e _ _ i1 i2 => intro f hf; obtain ⟨f, rfl⟩ : ∃ k, f = k + 1 := ⟨f - 1, by omega⟩; exact .two e (i1 f (by omega)) (i2 f (by omega))
theorem nice_str {a : Nat} {m : M} {s : Str} {n : Nat} (h : PyData.leavesShort 22 (.str s) = true) (h2 : PyData.canLay0 (.str s) = true) (h3 : s.cps.size ≤ n) : Nice a m [.str s] (n + 1) 0 :=
  ⟨[.str s], .str .nil, by simp only [PyData.leavesShortAll, h, Bool.and_true], rfl, by simp only [PyData.canLayAll0, h2, Bool.and_true], by simp only [PyData.weightAll, PyData.weight]; omega, by simp [PyData.depthAll, PyData.depth]⟩
theorem nice_int {a : Nat} {m : M} {i : Int} {n : Nat} (h : PyData.leavesShort 22 (.int i) = true) (h2 : PyData.showable (.int i) = true) (h3 : PyData.weight (.int i) ≤ n) : Nice a m [.int i] (n + 1) 0 :=
  ⟨[.int i], .int .nil, by simp only [PyData.leavesShortAll, h, Bool.and_true], by simp only [PyData.showableAll, h2, Bool.and_true], rfl, by simp only [PyData.weightAll]; omega, by simp [PyData.depthAll, PyData.depth]⟩
theorem small_int {a : Nat} {m : M} {i : Int} (h0 : -1 ≤ i) (h : i < 7) : Nice a m [.int i] 4 0 := by
  have : i = -1 ∨ i = 0 ∨ i = 1 ∨ i = 2 ∨ i = 3 ∨ i = 4 ∨ i = 5 ∨ i = 6 := by omega
  rcases this with rfl | rfl | rfl | rfl | rfl | rfl | rfl | rfl <;> exact nice_int (n := 3) (by decide +kernel) (by decide +kernel) (by decide +kernel)
theorem Kn.nice {a : Nat} {m : M} {d : Nat} {v : MV} (h : Kn d v) : Nice a m [v] (20 * 2 ^ d - 8) (d + 1) := by
  have one_le : ∀ n : Nat, 1 ≤ 2 ^ n := fun n => Nat.one_le_two_pow
  induction h with
  | @one d =>
    have := one_le d
    exact (nice_str (n := 3) (by decide +kernel) (by decide +kernel) (by decide +kernel)).tup.le (by omega) (by omega)
  | @let_ d i h0 h1 =>
    have := one_le d
    exact (((nice_str (s := "letter") (n := 6) (by decide +kernel) (by decide +kernel) (by decide +kernel)).cons (small_int (by omega) (by omega))).tup).le (by omega) (by simp)
  | @two d s x y e _ _ i1 i2 =>
    have := one_le d
    have ns : Nice a m [.str s] 5 0 := by rcases e with rfl | rfl | rfl <;> exact nice_str (n := 4) (by decide +kernel) (by decide +kernel) (by decide +kernel)
    exact ((ns.cons (i1.cons i2)).tup).le (by rw [Nat.pow_succ]; omega) (by omega)
end W_k11

set_option Elab.async false
set_option linter.all false
set_option maxRecDepth 100000
set_option maxHeartbeats 1000000
namespace W_k11
open PySem Mini
theorem ft0 : fits 0 = true := rfl
theorem ft4 : fits 4 = true := rfl
theorem kind_ok : ∀ (d : Nat) {a : Nat} {m : M}, Pot a m → ∀ k, d + 3 ≤ k → ∃ v m', tab bodies k 9 [.ref a, .int 6, .int ((d + 1 : Nat) : Int)] m = .ok v m' ∧ Kn d v ∧ Pot a m' ∧ Ext a m m'
  | 0, a, m, p, k, hk => by
    obtain ⟨k, rfl⟩ : ∃ j, k = j + 2 := ⟨k - 2, by omega⟩
    rw [show tab bodies (k + 2) 9 = runB 3 2 (c__law_kind (tab bodies (k + 1))) from rfl, x_run rfl]
    obtain ⟨r, m1, z1, p1, x1, r0, r1⟩ := draw_ok p (many := 7) (by decide) (by decide) k
    have e1 : decide ((1 : Int) < ((0 + 1 : Nat) : Int)) = false := rfl
    by_cases h : 0 < r
    · obtain ⟨i, m2, z2, p2, x2, i0, i1⟩ := draw_ok p1 (many := 6) (by decide) (by decide) k
      exact ⟨.tup [.str "letter", .int i], m2, by simp only [c__law_kind, of_some, v_lit, v_var, v_nil, v_dct0, v_none, x_nil, x_cont, y_nm, y_nil, g_bin20, e_bin1, g_bin10, e_un1, g_un10, g_cons20, e_cons1, g_cons10, g_tup20, e_tup1, g_tup10, g_lst20, e_lst1, g_lst10, g_fun20, e_fun1, g_fun10, g_key20, e_key1, g_key10, e_ap1, g_ap10, e_pick, g_pick0, g_pick1, g_pick2, g_pick3, e_sif, e_and1, g_and10, g_and11, e_or1, g_or10, g_or11, e_not1, g_not, g_chain40, g_chain30, g_chain31, g_chain20, e_chain1, g_chain10, e_val1, g_val, e_tru1, g_tru10, e_tand, g_tand0, g_tand1, e_tor, g_tor0, g_tor1, e_tnot, g_tnot, g_isi2, e_isi1, g_isi10, g_sl30, g_sl20, e_sl1, g_sl10, e_part1, g_part10, g_meA0, e_me0, g_me00, g_meB0, e_me1, g_me10, e_seq1, g_seq10, g_seq11, g_seq12, e_ret1, g_ret10, e_expr1, g_expr10, g_asg20, e_asg1, g_asg10, g_par20, e_par1, g_par10, e_gtup, g_gtup0, e_gs1, g_gs10, g_sub20, e_sub1, g_sub10, g_run10, g_run11, add_ii, ixt0, ixt1, ixt2, len_t0, len_t1, len_t2, len_t3, mkS, List.map_cons, List.map_nil, List.replicate, List.cons_append, List.nil_append, List.length_cons, List.length_nil, Nat.zero_add, Nat.reduceAdd, Nat.reduceBEq, Nat.beq, cond_true, cond_false, nth, setN, at?, oSub, oMul, oDiv, oMod, uNeg, oCmpI, oLt, oLe, oGt, oGe, subS, setAll, bInt, bDivmod, bAbs, bMax2, truM, isTys, isTy, Bool.or_false, Bool.false_or, Bool.true_or, Bool.or_true, Bool.and_true, Bool.true_and, Bool.and_false, Bool.false_and, Bool.not_true, Bool.not_false, eq_str, eq_int, ne_str, ne_int, nat_beq, Int.reduceEq, Int.reduceLT, Int.reduceLE, decide_true, decide_false, reduceCtorEq, e1, z1, z2, decide_eq_true h, ft2], .let_ i0 i1, p2, x1.trans x2⟩
    · exact ⟨.tup [.str "one"], m1, by simp only [c__law_kind, of_some, v_lit, v_var, v_nil, v_dct0, v_none, x_nil, x_cont, y_nm, y_nil, g_bin20, e_bin1, g_bin10, e_un1, g_un10, g_cons20, e_cons1, g_cons10, g_tup20, e_tup1, g_tup10, g_lst20, e_lst1, g_lst10, g_fun20, e_fun1, g_fun10, g_key20, e_key1, g_key10, e_ap1, g_ap10, e_pick, g_pick0, g_pick1, g_pick2, g_pick3, e_sif, e_and1, g_and10, g_and11, e_or1, g_or10, g_or11, e_not1, g_not, g_chain40, g_chain30, g_chain31, g_chain20, e_chain1, g_chain10, e_val1, g_val, e_tru1, g_tru10, e_tand, g_tand0, g_tand1, e_tor, g_tor0, g_tor1, e_tnot, g_tnot, g_isi2, e_isi1, g_isi10, g_sl30, g_sl20, e_sl1, g_sl10, e_part1, g_part10, g_meA0, e_me0, g_me00, g_meB0, e_me1, g_me10, e_seq1, g_seq10, g_seq11, g_seq12, e_ret1, g_ret10, e_expr1, g_expr10, g_asg20, e_asg1, g_asg10, g_par20, e_par1, g_par10, e_gtup, g_gtup0, e_gs1, g_gs10, g_sub20, e_sub1, g_sub10, g_run10, g_run11, add_ii, ixt0, ixt1, ixt2, len_t0, len_t1, len_t2, len_t3, mkS, List.map_cons, List.map_nil, List.replicate, List.cons_append, List.nil_append, List.length_cons, List.length_nil, Nat.zero_add, Nat.reduceAdd, Nat.reduceBEq, Nat.beq, cond_true, cond_false, nth, setN, at?, oSub, oMul, oDiv, oMod, uNeg, oCmpI, oLt, oLe, oGt, oGe, subS, setAll, bInt, bDivmod, bAbs, bMax2, truM, isTys, isTy, Bool.or_false, Bool.false_or, Bool.true_or, Bool.or_true, Bool.and_true, Bool.true_and, Bool.and_false, Bool.false_and, Bool.not_true, Bool.not_false, eq_str, eq_int, ne_str, ne_int, nat_beq, Int.reduceEq, Int.reduceLT, Int.reduceLE, decide_true, decide_false, reduceCtorEq, e1, z1, decide_eq_false h, ft1], .one, p1, x1⟩
  | d + 1, a, m, p, k, hk => by
    obtain ⟨k, rfl⟩ : ∃ j, k = j + 2 := ⟨k - 2, by omega⟩
    rw [show tab bodies (k + 2) 9 = runB 3 2 (c__law_kind (tab bodies (k + 1))) from rfl, x_run rfl]
    have e1 : decide ((1 : Int) < ((d + 1 + 1 : Nat) : Int)) = true := decide_eq_true (by omega)
    have e2 : ((d + 1 + 1 : Nat) : Int) - 1 = ((d + 1 : Nat) : Int) := by omega
    obtain ⟨w, m0, z0, p0, x0, w0, w1⟩ := draw_ok p (many := 6) (by decide) (by decide) k
    by_cases hw : 3 < w
    · obtain ⟨r, m1, z1, p1, x1, r0, r1⟩ := draw_ok p0 (many := 7) (by decide) (by decide) k
      by_cases h : 0 < r
      · obtain ⟨i, m2, z2, p2, x2, i0, i1⟩ := draw_ok p1 (many := 6) (by decide) (by decide) k
        exact ⟨.tup [.str "letter", .int i], m2, by simp only [c__law_kind, of_some, v_lit, v_var, v_nil, v_dct0, v_none, x_nil, x_cont, y_nm, y_nil, g_bin20, e_bin1, g_bin10, e_un1, g_un10, g_cons20, e_cons1, g_cons10, g_tup20, e_tup1, g_tup10, g_lst20, e_lst1, g_lst10, g_fun20, e_fun1, g_fun10, g_key20, e_key1, g_key10, e_ap1, g_ap10, e_pick, g_pick0, g_pick1, g_pick2, g_pick3, e_sif, e_and1, g_and10, g_and11, e_or1, g_or10, g_or11, e_not1, g_not, g_chain40, g_chain30, g_chain31, g_chain20, e_chain1, g_chain10, e_val1, g_val, e_tru1, g_tru10, e_tand, g_tand0, g_tand1, e_tor, g_tor0, g_tor1, e_tnot, g_tnot, g_isi2, e_isi1, g_isi10, g_sl30, g_sl20, e_sl1, g_sl10, e_part1, g_part10, g_meA0, e_me0, g_me00, g_meB0, e_me1, g_me10, e_seq1, g_seq10, g_seq11, g_seq12, e_ret1, g_ret10, e_expr1, g_expr10, g_asg20, e_asg1, g_asg10, g_par20, e_par1, g_par10, e_gtup, g_gtup0, e_gs1, g_gs10, g_sub20, e_sub1, g_sub10, g_run10, g_run11, add_ii, ixt0, ixt1, ixt2, len_t0, len_t1, len_t2, len_t3, mkS, List.map_cons, List.map_nil, List.replicate, List.cons_append, List.nil_append, List.length_cons, List.length_nil, Nat.zero_add, Nat.reduceAdd, Nat.reduceBEq, Nat.beq, cond_true, cond_false, nth, setN, at?, oSub, oMul, oDiv, oMod, uNeg, oCmpI, oLt, oLe, oGt, oGe, subS, setAll, bInt, bDivmod, bAbs, bMax2, truM, isTys, isTy, Bool.or_false, Bool.false_or, Bool.true_or, Bool.or_true, Bool.and_true, Bool.true_and, Bool.and_false, Bool.false_and, Bool.not_true, Bool.not_false, eq_str, eq_int, ne_str, ne_int, nat_beq, Int.reduceEq, Int.reduceLT, Int.reduceLE, decide_true, decide_false, reduceCtorEq, e1, z0, decide_eq_true hw, z1, z2, decide_eq_true h, ft2], .let_ i0 i1, p2, x0.trans (x1.trans x2)⟩
      · exact ⟨.tup [.str "one"], m1, by simp only [c__law_kind, of_some, v_lit, v_var, v_nil, v_dct0, v_none, x_nil, x_cont, y_nm, y_nil, g_bin20, e_bin1, g_bin10, e_un1, g_un10, g_cons20, e_cons1, g_cons10, g_tup20, e_tup1, g_tup10, g_lst20, e_lst1, g_lst10, g_fun20, e_fun1, g_fun10, g_key20, e_key1, g_key10, e_ap1, g_ap10, e_pick, g_pick0, g_pick1, g_pick2, g_pick3, e_sif, e_and1, g_and10, g_and11, e_or1, g_or10, g_or11, e_not1, g_not, g_chain40, g_chain30, g_chain31, g_chain20, e_chain1, g_chain10, e_val1, g_val, e_tru1, g_tru10, e_tand, g_tand0, g_tand1, e_tor, g_tor0, g_tor1, e_tnot, g_tnot, g_isi2, e_isi1, g_isi10, g_sl30, g_sl20, e_sl1, g_sl10, e_part1, g_part10, g_meA0, e_me0, g_me00, g_meB0, e_me1, g_me10, e_seq1, g_seq10, g_seq11, g_seq12, e_ret1, g_ret10, e_expr1, g_expr10, g_asg20, e_asg1, g_asg10, g_par20, e_par1, g_par10, e_gtup, g_gtup0, e_gs1, g_gs10, g_sub20, e_sub1, g_sub10, g_run10, g_run11, add_ii, ixt0, ixt1, ixt2, len_t0, len_t1, len_t2, len_t3, mkS, List.map_cons, List.map_nil, List.replicate, List.cons_append, List.nil_append, List.length_cons, List.length_nil, Nat.zero_add, Nat.reduceAdd, Nat.reduceBEq, Nat.beq, cond_true, cond_false, nth, setN, at?, oSub, oMul, oDiv, oMod, uNeg, oCmpI, oLt, oLe, oGt, oGe, subS, setAll, bInt, bDivmod, bAbs, bMax2, truM, isTys, isTy, Bool.or_false, Bool.false_or, Bool.true_or, Bool.or_true, Bool.and_true, Bool.true_and, Bool.and_false, Bool.false_and, Bool.not_true, Bool.not_false, eq_str, eq_int, ne_str, ne_int, nat_beq, Int.reduceEq, Int.reduceLT, Int.reduceLE, decide_true, decide_false, reduceCtorEq, e1, z0, decide_eq_true hw, z1, decide_eq_false h, ft1], .one, p1, x0.trans x1⟩
    · have pn : Pot a (m0.new (.lst [.str "fun", .str "pair", .str "sum", .str "fun"])) := p0.new
      obtain ⟨x, z1, ex⟩ := ix_l (m := m0.new (.lst [.str "fun", .str "pair", .str "sum", .str "fun"])) (r := w) get_new_self w0 (show w < 4 by omega)
      obtain ⟨s, rfl, hs⟩ : ∃ s, x = .str s ∧ (s = "fun" ∨ s = "pair" ∨ s = "sum") := by
        have : w = 0 ∨ w = 1 ∨ w = 2 ∨ w = 3 := by omega
        rcases this with rfl | rfl | rfl | rfl <;> cases ex
        · exact ⟨_, rfl, .inl rfl⟩
        · exact ⟨_, rfl, .inr (.inl rfl)⟩
        · exact ⟨_, rfl, .inr (.inr rfl)⟩
        · exact ⟨_, rfl, .inl rfl⟩
      obtain ⟨v1, m1, z2, k1, p1, x1⟩ := kind_ok d pn (k + 1) (by omega)
      obtain ⟨v2, m2, z3, k2, p2, x2⟩ := kind_ok d p1 (k + 1) (by omega)
      exact ⟨.tup [.str s, v1, v2], m2, by simp only [c__law_kind, of_some, v_lit, v_var, v_nil, v_dct0, v_none, x_nil, x_cont, y_nm, y_nil, g_bin20, e_bin1, g_bin10, e_un1, g_un10, g_cons20, e_cons1, g_cons10, g_tup20, e_tup1, g_tup10, g_lst20, e_lst1, g_lst10, g_fun20, e_fun1, g_fun10, g_key20, e_key1, g_key10, e_ap1, g_ap10, e_pick, g_pick0, g_pick1, g_pick2, g_pick3, e_sif, e_and1, g_and10, g_and11, e_or1, g_or10, g_or11, e_not1, g_not, g_chain40, g_chain30, g_chain31, g_chain20, e_chain1, g_chain10, e_val1, g_val, e_tru1, g_tru10, e_tand, g_tand0, g_tand1, e_tor, g_tor0, g_tor1, e_tnot, g_tnot, g_isi2, e_isi1, g_isi10, g_sl30, g_sl20, e_sl1, g_sl10, e_part1, g_part10, g_meA0, e_me0, g_me00, g_meB0, e_me1, g_me10, e_seq1, g_seq10, g_seq11, g_seq12, e_ret1, g_ret10, e_expr1, g_expr10, g_asg20, e_asg1, g_asg10, g_par20, e_par1, g_par10, e_gtup, g_gtup0, e_gs1, g_gs10, g_sub20, e_sub1, g_sub10, g_run10, g_run11, add_ii, ixt0, ixt1, ixt2, len_t0, len_t1, len_t2, len_t3, mkS, List.map_cons, List.map_nil, List.replicate, List.cons_append, List.nil_append, List.length_cons, List.length_nil, Nat.zero_add, Nat.reduceAdd, Nat.reduceBEq, Nat.beq, cond_true, cond_false, nth, setN, at?, oSub, oMul, oDiv, oMod, uNeg, oCmpI, oLt, oLe, oGt, oGe, subS, setAll, bInt, bDivmod, bAbs, bMax2, truM, isTys, isTy, Bool.or_false, Bool.false_or, Bool.true_or, Bool.or_true, Bool.and_true, Bool.true_and, Bool.and_false, Bool.false_and, Bool.not_true, Bool.not_false, eq_str, eq_int, ne_str, ne_int, nat_beq, Int.reduceEq, Int.reduceLT, Int.reduceLE, decide_true, decide_false, reduceCtorEq, e1, e2, z0, decide_eq_false hw, z1, z2, z3, ft3, ft4], .two hs k1 k2, p2, x0.trans (Ext.trans .new (x1.trans x2))⟩
theorem full_ok : ∀ (d : Nat) {m : M} (k : Nat), d + 1 ≤ k → ∃ v, tab bodies k 15 [.int ((d + 1 : Nat) : Int)] m = .ok v m ∧ Kn d v
  | 0, m, k, hk => by
    obtain ⟨k, rfl⟩ : ∃ j, k = j + 1 := ⟨k - 1, by omega⟩
    rw [show tab bodies (k + 1) 15 = runB 1 0 (c__law_full (tab bodies k)) from rfl, x_run rfl]
    have e1 : decide (((0 + 1 : Nat) : Int) = 1) = true := rfl
    exact ⟨.tup [.str "letter", .int 1], by simp only [c__law_full, of_some, v_lit, v_var, v_nil, v_dct0, v_none, x_nil, x_cont, y_nm, y_nil, g_bin20, e_bin1, g_bin10, e_un1, g_un10, g_cons20, e_cons1, g_cons10, g_tup20, e_tup1, g_tup10, g_lst20, e_lst1, g_lst10, g_fun20, e_fun1, g_fun10, g_key20, e_key1, g_key10, e_ap1, g_ap10, e_pick, g_pick0, g_pick1, g_pick2, g_pick3, e_sif, e_and1, g_and10, g_and11, e_or1, g_or10, g_or11, e_not1, g_not, g_chain40, g_chain30, g_chain31, g_chain20, e_chain1, g_chain10, e_val1, g_val, e_tru1, g_tru10, e_tand, g_tand0, g_tand1, e_tor, g_tor0, g_tor1, e_tnot, g_tnot, g_isi2, e_isi1, g_isi10, g_sl30, g_sl20, e_sl1, g_sl10, e_part1, g_part10, g_meA0, e_me0, g_me00, g_meB0, e_me1, g_me10, e_seq1, g_seq10, g_seq11, g_seq12, e_ret1, g_ret10, e_expr1, g_expr10, g_asg20, e_asg1, g_asg10, g_par20, e_par1, g_par10, e_gtup, g_gtup0, e_gs1, g_gs10, g_sub20, e_sub1, g_sub10, g_run10, g_run11, add_ii, ixt0, ixt1, ixt2, len_t0, len_t1, len_t2, len_t3, mkS, List.map_cons, List.map_nil, List.replicate, List.cons_append, List.nil_append, List.length_cons, List.length_nil, Nat.zero_add, Nat.reduceAdd, Nat.reduceBEq, Nat.beq, cond_true, cond_false, nth, setN, at?, oSub, oMul, oDiv, oMod, uNeg, oCmpI, oLt, oLe, oGt, oGe, subS, setAll, bInt, bDivmod, bAbs, bMax2, truM, isTys, isTy, Bool.or_false, Bool.false_or, Bool.true_or, Bool.or_true, Bool.and_true, Bool.true_and, Bool.and_false, Bool.false_and, Bool.not_true, Bool.not_false, eq_str, eq_int, ne_str, ne_int, nat_beq, Int.reduceEq, Int.reduceLT, Int.reduceLE, decide_true, decide_false, reduceCtorEq, e1, ft2], .let_ (by decide) (by decide)⟩
  | d + 1, m, k, hk => by
    obtain ⟨k, rfl⟩ : ∃ j, k = j + 1 := ⟨k - 1, by omega⟩
    rw [show tab bodies (k + 1) 15 = runB 1 0 (c__law_full (tab bodies k)) from rfl, x_run rfl]
    have e1 : decide (((d + 1 + 1 : Nat) : Int) = 1) = false := decide_eq_false (by omega)
    have e2 : ((d + 1 + 1 : Nat) : Int) - 1 = ((d + 1 : Nat) : Int) := by omega
    obtain ⟨v, z, kv⟩ := full_ok d (m := m) k (by omega)
    exact ⟨.tup [.str "pair", v, v], by simp only [c__law_full, of_some, v_lit, v_var, v_nil, v_dct0, v_none, x_nil, x_cont, y_nm, y_nil, g_bin20, e_bin1, g_bin10, e_un1, g_un10, g_cons20, e_cons1, g_cons10, g_tup20, e_tup1, g_tup10, g_lst20, e_lst1, g_lst10, g_fun20, e_fun1, g_fun10, g_key20, e_key1, g_key10, e_ap1, g_ap10, e_pick, g_pick0, g_pick1, g_pick2, g_pick3, e_sif, e_and1, g_and10, g_and11, e_or1, g_or10, g_or11, e_not1, g_not, g_chain40, g_chain30, g_chain31, g_chain20, e_chain1, g_chain10, e_val1, g_val, e_tru1, g_tru10, e_tand, g_tand0, g_tand1, e_tor, g_tor0, g_tor1, e_tnot, g_tnot, g_isi2, e_isi1, g_isi10, g_sl30, g_sl20, e_sl1, g_sl10, e_part1, g_part10, g_meA0, e_me0, g_me00, g_meB0, e_me1, g_me10, e_seq1, g_seq10, g_seq11, g_seq12, e_ret1, g_ret10, e_expr1, g_expr10, g_asg20, e_asg1, g_asg10, g_par20, e_par1, g_par10, e_gtup, g_gtup0, e_gs1, g_gs10, g_sub20, e_sub1, g_sub10, g_run10, g_run11, add_ii, ixt0, ixt1, ixt2, len_t0, len_t1, len_t2, len_t3, mkS, List.map_cons, List.map_nil, List.replicate, List.cons_append, List.nil_append, List.length_cons, List.length_nil, Nat.zero_add, Nat.reduceAdd, Nat.reduceBEq, Nat.beq, cond_true, cond_false, nth, setN, at?, oSub, oMul, oDiv, oMod, uNeg, oCmpI, oLt, oLe, oGt, oGe, subS, setAll, bInt, bDivmod, bAbs, bMax2, truM, isTys, isTy, Bool.or_false, Bool.false_or, Bool.true_or, Bool.or_true, Bool.and_true, Bool.true_and, Bool.and_false, Bool.false_and, Bool.not_true, Bool.not_false, eq_str, eq_int, ne_str, ne_int, nat_beq, Int.reduceEq, Int.reduceLT, Int.reduceLE, decide_true, decide_false, reduceCtorEq, e1, e2, z, ft3], .two (.inr (.inl rfl)) kv kv⟩
theorem nat_beq2 : ∀ n : Nat, n.beq n = true := Nat.beq_refl
theorem row_ok {a : Nat} {m : M} {part : MV} {d n : Nat} (p : Pot a m) (hp : Kn d part) (hn : n ≤ 1000) (k : Nat) (hk : 4 ≤ k) :
    ∃ v m', tab bodies k 16 [.ref a, .int (n : Int), part] m = .ok v m' ∧ Kn (d + n) v ∧ Pot a m' ∧ Ext a m m' := by
  obtain ⟨k, rfl⟩ : ∃ j, k = j + 3 := ⟨k - 3, by omega⟩
  rw [show tab bodies (k + 3) 16 = runB 3 3 (c__law_row (tab bodies (k + 2))) from rfl, x_run rfl]
  obtain ⟨σ', m', z, f', x4, x5, hσ, kf, pf, xf⟩ := for_any (J := .rng 0 n) (g := gNm 4) (body := (sSeq (sAsg (cFun (tab bodies (k + 2)) 8 2 (aCons (cVar 0) (aCons (cLst (aCons (cLit (.str ("pair" : Str))) (aCons (cLit (.str ("sum" : Str))) (aCons (cLit (.str ("fun" : Str))) aNil)))) aNil))) (gNm 5)) (sAsg (cIf (tVal (cBin oEq (cFun (tab bodies (k + 2)) 7 2 (aCons (cVar 0) (aCons (cLit (.int 2)) aNil))) (cLit (.int 0)))) (cTup (aCons (cVar 5) (aCons (cVar 2) (aCons (cVar 3) aNil)))) (cTup (aCons (cVar 5) (aCons (cVar 3) (aCons (cVar 2) aNil))))) (gNm 3))))
    (fun i σ m1 => ∃ f x4 x5, σ = [some (.ref a), some (.int (n : Int)), some part, some f, x4, x5] ∧ Kn (d + i) f ∧ Pot a m1 ∧ Ext a m m1) n (fun i σ m1 hi ⟨f, x4, x5, e, kf, pf, xf⟩ => by
      subst e
      have pn : Pot a (m1.new (.lst [.str "pair", .str "sum", .str "fun"])) := pf.new
      obtain ⟨x, m2, z1, ⟨r, er⟩, p2, x2⟩ := pick_ok pn get_new_self (by have := pf.lt; omega) (by decide) (by decide) (k + 2) (by omega)
      obtain ⟨s, rfl, hs⟩ : ∃ s, x = .str s ∧ (s = "fun" ∨ s = "pair" ∨ s = "sum") := by
        match r, er with
        | 0, er => cases er; exact ⟨_, rfl, .inr (.inl rfl)⟩
        | 1, er => cases er; exact ⟨_, rfl, .inr (.inr rfl)⟩
        | 2, er => cases er; exact ⟨_, rfl, .inl rfl⟩
      obtain ⟨r2, m3, z2, p3, x3, r20, r21⟩ := draw_ok p2 (many := 2) (by decide) (by decide) (k + 1)
      have kp : Kn (d + i) part := hp.up _ (by omega)
      by_cases h : r2 = 0
      · exact ⟨.int (0 + (i : Int)), _, m1, [some (.ref a), some (.int (n : Int)), some part, some (.tup [.str s, part, f]), some (.int (0 + (i : Int))), some (.str s)], m3, rfl, rfl, by simp only [of_some, v_lit, v_var, v_nil, v_dct0, v_none, x_nil, x_cont, y_nm, y_nil, g_bin20, e_bin1, g_bin10, e_un1, g_un10, g_cons20, e_cons1, g_cons10, g_tup20, e_tup1, g_tup10, g_lst20, e_lst1, g_lst10, g_fun20, e_fun1, g_fun10, g_key20, e_key1, g_key10, e_ap1, g_ap10, e_pick, g_pick0, g_pick1, g_pick2, g_pick3, e_sif, e_and1, g_and10, g_and11, e_or1, g_or10, g_or11, e_not1, g_not, g_chain40, g_chain30, g_chain31, g_chain20, e_chain1, g_chain10, e_val1, g_val, e_tru1, g_tru10, e_tand, g_tand0, g_tand1, e_tor, g_tor0, g_tor1, e_tnot, g_tnot, g_isi2, e_isi1, g_isi10, g_sl30, g_sl20, e_sl1, g_sl10, e_part1, g_part10, g_meA0, e_me0, g_me00, g_meB0, e_me1, g_me10, e_seq1, g_seq10, g_seq11, g_seq12, e_ret1, g_ret10, e_expr1, g_expr10, g_asg20, e_asg1, g_asg10, g_par20, e_par1, g_par10, e_gtup, g_gtup0, e_gs1, g_gs10, g_sub20, e_sub1, g_sub10, g_run10, g_run11, add_ii, ixt0, ixt1, ixt2, len_t0, len_t1, len_t2, len_t3, mkS, List.map_cons, List.map_nil, List.replicate, List.cons_append, List.nil_append, List.length_cons, List.length_nil, Nat.zero_add, Nat.reduceAdd, Nat.reduceBEq, Nat.beq, cond_true, cond_false, nth, setN, at?, oSub, oMul, oDiv, oMod, uNeg, oCmpI, oLt, oLe, oGt, oGe, subS, setAll, bInt, bDivmod, bAbs, bMax2, truM, isTys, isTy, Bool.or_false, Bool.false_or, Bool.true_or, Bool.or_true, Bool.and_true, Bool.true_and, Bool.and_false, Bool.false_and, Bool.not_true, Bool.not_false, eq_str, eq_int, ne_str, ne_int, nat_beq, Int.reduceEq, Int.reduceLT, Int.reduceLE, decide_true, decide_false, reduceCtorEq, ft3, z1, z2, decide_eq_true h], _, _, _, rfl, .two hs kp kf, p3, xf.trans (Ext.trans .new (x2.trans x3))⟩
      · exact ⟨.int (0 + (i : Int)), _, m1, [some (.ref a), some (.int (n : Int)), some part, some (.tup [.str s, f, part]), some (.int (0 + (i : Int))), some (.str s)], m3, rfl, rfl, by simp only [of_some, v_lit, v_var, v_nil, v_dct0, v_none, x_nil, x_cont, y_nm, y_nil, g_bin20, e_bin1, g_bin10, e_un1, g_un10, g_cons20, e_cons1, g_cons10, g_tup20, e_tup1, g_tup10, g_lst20, e_lst1, g_lst10, g_fun20, e_fun1, g_fun10, g_key20, e_key1, g_key10, e_ap1, g_ap10, e_pick, g_pick0, g_pick1, g_pick2, g_pick3, e_sif, e_and1, g_and10, g_and11, e_or1, g_or10, g_or11, e_not1, g_not, g_chain40, g_chain30, g_chain31, g_chain20, e_chain1, g_chain10, e_val1, g_val, e_tru1, g_tru10, e_tand, g_tand0, g_tand1, e_tor, g_tor0, g_tor1, e_tnot, g_tnot, g_isi2, e_isi1, g_isi10, g_sl30, g_sl20, e_sl1, g_sl10, e_part1, g_part10, g_meA0, e_me0, g_me00, g_meB0, e_me1, g_me10, e_seq1, g_seq10, g_seq11, g_seq12, e_ret1, g_ret10, e_expr1, g_expr10, g_asg20, e_asg1, g_asg10, g_par20, e_par1, g_par10, e_gtup, g_gtup0, e_gs1, g_gs10, g_sub20, e_sub1, g_sub10, g_run10, g_run11, add_ii, ixt0, ixt1, ixt2, len_t0, len_t1, len_t2, len_t3, mkS, List.map_cons, List.map_nil, List.replicate, List.cons_append, List.nil_append, List.length_cons, List.length_nil, Nat.zero_add, Nat.reduceAdd, Nat.reduceBEq, Nat.beq, cond_true, cond_false, nth, setN, at?, oSub, oMul, oDiv, oMod, uNeg, oCmpI, oLt, oLe, oGt, oGe, subS, setAll, bInt, bDivmod, bAbs, bMax2, truM, isTys, isTy, Bool.or_false, Bool.false_or, Bool.true_or, Bool.or_true, Bool.and_true, Bool.true_and, Bool.and_false, Bool.false_and, Bool.not_true, Bool.not_false, eq_str, eq_int, ne_str, ne_int, nat_beq, Int.reduceEq, Int.reduceLT, Int.reduceLE, decide_true, decide_false, reduceCtorEq, ft3, z1, z2, decide_eq_false h], _, _, _, rfl, .two hs kf kp, p3, xf.trans (Ext.trans .new (x2.trans x3))⟩)
    (fun _ _ _ => rfl) n 0 [some (.ref a), some (.int (n : Int)), some part, some (.tup [.str "one"]), none, none] m (by omega) ⟨_, _, _, rfl, .one, p, .refl⟩
  subst hσ
  refine ⟨f', m', ?_, kf, pf, xf⟩
  have sm : small62 (n : Int) = true := blt_of (show n < 4611686018427387904 by omega)
  have fr : sFor (iRng1 (cVar 1)) (gNm 4) (sSeq (sAsg (cFun (tab bodies (k + 2)) 8 2 (aCons (cVar 0) (aCons (cLst (aCons (cLit (.str ("pair" : Str))) (aCons (cLit (.str ("sum" : Str))) (aCons (cLit (.str ("fun" : Str))) aNil)))) aNil))) (gNm 5)) (sAsg (cIf (tVal (cBin oEq (cFun (tab bodies (k + 2)) 7 2 (aCons (cVar 0) (aCons (cLit (.int 2)) aNil))) (cLit (.int 0)))) (cTup (aCons (cVar 5) (aCons (cVar 2) (aCons (cVar 3) aNil)))) (cTup (aCons (cVar 5) (aCons (cVar 3) (aCons (cVar 2) aNil))))) (gNm 3))) [some (.ref a), some (.int (n : Int)), some part, some (.tup [.str "one"]), none, none] m = .ok (.nx [some (.ref a), some (.int (n : Int)), some part, some f', x4, x5]) m' := by
    show Rs.bind (iRng1 (cVar 1) _ m) _ = _
    rw [e_irng (j := (n : Int)) (m' := m) rfl sm]
    exact z
  simp only [c__law_row, of_some, v_lit, v_var, v_nil, v_dct0, v_none, x_nil, x_cont, y_nm, y_nil, g_bin20, e_bin1, g_bin10, e_un1, g_un10, g_cons20, e_cons1, g_cons10, g_tup20, e_tup1, g_tup10, g_lst20, e_lst1, g_lst10, g_fun20, e_fun1, g_fun10, g_key20, e_key1, g_key10, e_ap1, g_ap10, e_pick, g_pick0, g_pick1, g_pick2, g_pick3, e_sif, e_and1, g_and10, g_and11, e_or1, g_or10, g_or11, e_not1, g_not, g_chain40, g_chain30, g_chain31, g_chain20, e_chain1, g_chain10, e_val1, g_val, e_tru1, g_tru10, e_tand, g_tand0, g_tand1, e_tor, g_tor0, g_tor1, e_tnot, g_tnot, g_isi2, e_isi1, g_isi10, g_sl30, g_sl20, e_sl1, g_sl10, e_part1, g_part10, g_meA0, e_me0, g_me00, g_meB0, e_me1, g_me10, e_seq1, g_seq10, g_seq11, g_seq12, e_ret1, g_ret10, e_expr1, g_expr10, g_asg20, e_asg1, g_asg10, g_par20, e_par1, g_par10, e_gtup, g_gtup0, e_gs1, g_gs10, g_sub20, e_sub1, g_sub10, g_run10, g_run11, add_ii, ixt0, ixt1, ixt2, len_t0, len_t1, len_t2, len_t3, mkS, List.map_cons, List.map_nil, List.replicate, List.cons_append, List.nil_append, List.length_cons, List.length_nil, Nat.zero_add, Nat.reduceAdd, Nat.reduceBEq, Nat.beq, cond_true, cond_false, nth, setN, at?, oSub, oMul, oDiv, oMod, uNeg, oCmpI, oLt, oLe, oGt, oGe, subS, setAll, bInt, bDivmod, bAbs, bMax2, truM, isTys, isTy, Bool.or_false, Bool.false_or, Bool.true_or, Bool.or_true, Bool.and_true, Bool.true_and, Bool.and_false, Bool.false_and, Bool.not_true, Bool.not_false, eq_str, eq_int, ne_str, ne_int, nat_beq, Int.reduceEq, Int.reduceLT, Int.reduceLE, decide_true, decide_false, reduceCtorEq, ft1, fr]
end W_k11

set_option Elab.async false
set_option linter.all false
set_option maxRecDepth 100000
set_option maxHeartbeats 4000000
namespace W_k11
open PySem Mini
theorem ft5 : fits 5 = true := rfl
theorem ft6 : fits 6 = true := rfl
theorem ft8 : fits 8 = true := rfl
theorem ft15 : fits 15 = true := rfl
theorem add_tt {l k : List MV} {m : M} : oAdd (.tup l) (.tup k) m = tup2 (fits (l.length + k.length)) (l ++ k) m := rfl
theorem lst_t {l : List MV} {m : M} : bList [.tup l] m = .ok (.ref m.n) (m.new (.lst l)) := rfl
theorem neg_i {i : Int} {m : M} : uNeg (.int i) m = .ok (.int (-i)) m := rfl
theorem add_rr {b c : Nat} {m : M} {l k : List MV} (g1 : m.get b = some (.lst l)) (g2 : m.get c = some (.lst k)) (h : l.length + k.length ≤ 16777216) : oAdd (.ref b) (.ref c) m = .ok (.ref m.n) (m.new (.lst (l ++ k))) := by
  simp only [oAdd, g1, g2, newO, fits_of h, cond_true]
def bentR (F : FT) : CS := (sSeq (sAsg (cLst (aCons (cLit .non) (aCons (cLit (.bl true)) (aCons (cLit (.bl false)) (aCons (cUn uNeg (cLit (.int 1))) (aCons (cLit (.int 0)) (aCons (cLit (.int 5)) (aCons (cLit (.int 6)) (aCons (cLit (.str ("one" : Str))) (aCons (cLit (.str ("" : Str))) (aCons (cTup (aCons (cLit (.str ("one" : Str))) aNil)) (aCons (cTup (aCons (cLit (.str ("letter" : Str))) (aCons (cLit (.int 0)) aNil))) (aCons (cLst aNil) (aCons (cTup aNil) (aCons (cLst (aCons (cLit (.str ("one" : Str))) aNil)) (aCons (cBin oPow (cLit (.int 10)) (cLit (.int 20))) aNil)))))))))))))))) (gNm 3)) (sSeq (sPar [4, 5, 6] (aCons (cFun F 8 2 (aCons (cVar 0) (aCons (cVar 3) aNil))) (aCons (cSl (cVar 1) oNone (oPart (cVar 2))) (aCons (cSl (cVar 1) (oPart (cBin oAdd (cVar 2) (cLit (.int 1)))) oNone) aNil)))) (sSeq (sAsg (cFun F 8 2 (aCons (cVar 0) (aCons (cLst (aCons (cLit (.str ("one" : Str))) (aCons (cLit (.str ("letter" : Str))) (aCons (cLit (.str ("pair" : Str))) (aCons (cLit (.str ("sum" : Str))) (aCons (cLit (.str ("fun" : Str))) (aCons (cLit (.str ("Fun" : Str))) (aCons (cLit (.str ("both" : Str))) (aCons (cLit (.str ("" : Str))) aNil))))))))) aNil))) (gNm 7)) (sSeq (sAsg (cLst (aCons (cBin oAdd (cBin oAdd (cVar 5) (cTup (aCons (cVar 4) aNil))) (cSl (cVar 1) (oPart (cVar 2)) oNone)) (aCons (cBin oAdd (cBin oAdd (cVar 5) (cTup (aCons (cVar 4) aNil))) (cVar 6)) (aCons (cBin oAdd (cVar 5) (cVar 6)) (aCons (cAp bList (aCons (cVar 1) aNil)) (aCons (cSl (cVar 1) (oPart (cLit (.int 1))) oNone) (aCons (cBin oAdd (cVar 1) (cSl (cVar 1) (oPart (cLit (.int 1))) oNone)) aNil))))))) (gNm 8)) (sSeq (sAsg (cBin oAdd (cVar 8) (cLst (aCons (cBin oAdd (cTup (aCons (cVar 7) aNil)) (cSl (cVar 1) (oPart (cLit (.int 1))) oNone)) (aCons (cTup (aCons (cVar 1) aNil)) (aCons (cTup (aCons (cLit (.str ("fun" : Str))) (aCons (cVar 1) (aCons (cVar 1) aNil)))) (aCons (cTup (aCons (cLit (.str ("pair" : Str))) (aCons (cVar 1) aNil))) (aCons (cTup (aCons (cLit (.str ("sum" : Str))) (aCons (cVar 1) (aCons (cVar 4) aNil)))) aNil))))))) (gNm 8)) (sRet (cFun F 8 2 (aCons (cVar 0) (aCons (cVar 8) aNil)))))))))
def oddL (n : Nat) : List MV := [.non, .bl true, .bl false, .int (-1), .int 0, .int 5, .int 6, .str "one", .str "", .tup [.str "one"], .tup [.str "letter", .int 0], .ref n, .tup [], .ref (n + 1), .int 100000000000000000000]
def wordL : List MV := [.str "one", .str "letter", .str "pair", .str "sum", .str "fun", .str "Fun", .str "both", .str ""]
theorem nice_odds {a : Nat} {m : M} (ha : a < m.n) : Nice a (((m.new (.lst [])).new (.lst [.str "one"])).new (.lst (oddL m.n))) (oddL m.n) 150 2 := by
  have g1 : (((m.new (.lst [])).new (.lst [.str "one"])).new (.lst (oddL m.n))).get m.n = some (.lst []) := get_new_old (get_new_old get_new_self)
  have g2 : (((m.new (.lst [])).new (.lst [.str "one"])).new (.lst (oddL m.n))).get (m.n + 1) = some (.lst [.str "one"]) := get_new_old get_new_self
  have s1 : ∀ {m : M}, Nice a m [.str "one"] 4 0 := nice_str (n := 3) (by decide +kernel) (by decide +kernel) (by decide +kernel)
  have s2 : ∀ {m : M}, Nice a m [.str ""] 1 0 := nice_str (n := 0) (by decide +kernel) (by decide +kernel) (by decide +kernel)
  have s3 : ∀ {m : M}, Nice a m [.str "letter"] 7 0 := nice_str (n := 6) (by decide +kernel) (by decide +kernel) (by decide +kernel)
  have n0 : ∀ {m : M}, Nice a m [.non] 1 0 := ⟨[.none], .non .nil, rfl, rfl, rfl, by decide, by decide⟩
  have b0 : ∀ {m : M} {b : Bool}, Nice a m [.bl b] 1 0 := ⟨[.bool _], .bl .nil, rfl, rfl, rfl, by simp [PyData.weightAll, PyData.weight], by simp [PyData.depthAll, PyData.depth]⟩
  have i0 : ∀ {m : M} {i : Int}, -1 ≤ i → i < 7 → Nice a m [.int i] 4 0 := small_int
  have ib : ∀ {m : M}, Nice a m [.int 100000000000000000000] 68 0 := nice_int (n := 67) (by decide +kernel) (by decide +kernel) (by decide +kernel)
  refine Nice.le (w := 1 + (1 + (1 + (4 + (4 + (4 + (4 + (4 + (1 + ((4 + 1) + ((7 + 4 + 1) + ((0 + 1) + ((0 + 1) + ((4 + 1) + 68)))))))))))))) (h := 2) (Nice.le (n0.cons (b0.cons (b0.cons ((i0 (by decide) (by decide)).cons ((i0 (by decide) (by decide)).cons ((i0 (by decide) (by decide)).cons ((i0 (by decide) (by decide)).cons (s1.cons (s2.cons (s1.tup.cons ((s3.cons (i0 (by decide) (by decide))).tup.cons
    ((Nice.lst (by omega) g1 .nil).cons (Nice.nil.tup.cons ((Nice.lst (by omega) g2 s1).cons ib)))))))))))))) (Nat.le_refl _) (by decide)) (by decide) (by decide)
theorem bent_rest {a : Nat} {m : M} {L : List MV} {w h n : Nat} (p : Pot a m) (nL : Nice a m L w h) (hl : L.length ≤ 3) (hn : n ≤ L.length) (k : Nat) (hk : 2 ≤ k) :
    ∃ u m', run1 (bentR (tab bodies k) [some (.ref a), some (.tup L), some (.int (n : Int)), none, none, none, none, none, none] m) = .ok u m' ∧ Nice a m' [u] (2 * w + 300) (max h 2 + 2) ∧ Pot a m' ∧ Ext a m m' := by
  have la := p.lt
  -- the odds
  have p1 : Pot a (((m.new (.lst [])).new (.lst [.str "one"])).new (.lst (oddL m.n))) := p.new.new.new
  have n1 := nice_odds (m := m) la
  obtain ⟨odd, m2, z2, ⟨r2, e2⟩, p2, x2⟩ := pick_ok p1 (b := ((m.new (.lst [])).new (.lst [.str "one"])).n) get_new_self (by show m.n + 1 + 1 ≠ a; omega) (by show 0 < 15; decide) (by show 15 < 1073741824; decide) k hk
  have nodd : Nice a m2 [odd] 150 2 := (n1.at e2).mono x2
  have l2 : m.n + 3 ≤ m2.n := x2.le
  -- the word
  obtain ⟨word, m3, z3, ⟨r3, e3⟩, p3, x3⟩ := pick_ok (p2.new (o := .lst wordL)) (b := m2.n) get_new_self (by have := p2.lt; omega) (by decide) (by decide) k hk
  obtain ⟨s, rfl, ns⟩ : ∃ s, word = .str s ∧ ∀ m, Nice a m [.str s] 7 0 := by
    have key : ∀ s : Str, PyData.leavesShort 22 (.str s) = true → PyData.canLay0 (.str s) = true → s.cps.size ≤ 6 → ∀ m, Nice a m [.str s] 7 0 := fun s h1 h2 h3 m => nice_str (n := 6) h1 h2 h3
    match r3, e3 with
    | 0, e => cases e; exact ⟨_, rfl, key _ (by decide +kernel) (by decide +kernel) (by decide +kernel)⟩
    | 1, e => cases e; exact ⟨_, rfl, key _ (by decide +kernel) (by decide +kernel) (by decide +kernel)⟩
    | 2, e => cases e; exact ⟨_, rfl, key _ (by decide +kernel) (by decide +kernel) (by decide +kernel)⟩
    | 3, e => cases e; exact ⟨_, rfl, key _ (by decide +kernel) (by decide +kernel) (by decide +kernel)⟩
    | 4, e => cases e; exact ⟨_, rfl, key _ (by decide +kernel) (by decide +kernel) (by decide +kernel)⟩
    | 5, e => cases e; exact ⟨_, rfl, key _ (by decide +kernel) (by decide +kernel) (by decide +kernel)⟩
    | 6, e => cases e; exact ⟨_, rfl, key _ (by decide +kernel) (by decide +kernel) (by decide +kernel)⟩
    | 7, e => cases e; exact ⟨_, rfl, key _ (by decide +kernel) (by decide +kernel) (by decide +kernel)⟩
  have len1 : (L.take n).length ≤ 3 := by rw [List.length_take]; omega
  have len2 : (L.drop n).length ≤ 3 := by rw [List.length_drop]; omega
  have len3 : (L.drop (n + 1)).length ≤ 3 := by rw [List.length_drop]; omega
  have len4 : (L.drop 1).length ≤ 3 := by rw [List.length_drop]; omega
  have c1 : cutM L none (some (n : Int)) = L.take n := cut_take hn
  have c2 : cutM L (some ((n : Int) + 1)) none = L.drop (n + 1) := cut_drop (n := n + 1)
  have c3 : cutM L (some (n : Int)) none = L.drop n := cut_drop
  have c4 : cutM L (some (1 : Int)) none = L.drop 1 := cut_drop (n := 1)
  have f1 : fits ((L.take n).length + 1) = true := fits_of (by omega)
  have f2 : fits ((L.take n ++ [odd]).length + (L.drop n).length) = true := fits_of (by rw [List.length_append]; simp only [List.length_cons, List.length_nil]; omega)
  have f3 : fits ((L.take n ++ [odd]).length + (L.drop (n + 1)).length) = true := fits_of (by rw [List.length_append]; simp only [List.length_cons, List.length_nil]; omega)
  have f4 : fits ((L.take n).length + (L.drop (n + 1)).length) = true := fits_of (by omega)
  have f5 : fits (L.length + (L.drop 1).length) = true := fits_of (by omega)
  have f6 : fits (1 + (L.drop 1).length) = true := fits_of (by omega)
  -- what may come
  have sl : ∃ SL : List MV, SL = [.tup (L.take n ++ [odd] ++ L.drop n), .tup (L.take n ++ [odd] ++ L.drop (n + 1)), .tup (L.take n ++ L.drop (n + 1)), .ref m3.n, .tup (L.drop 1), .tup (L ++ L.drop 1)] := ⟨_, rfl⟩
  obtain ⟨SL, hSL⟩ := sl
  obtain ⟨TL, hTL⟩ : ∃ TL : List MV, TL = [.tup (.str s :: L.drop 1), .tup [.tup L], .tup [.str "fun", .tup L, .tup L], .tup [.str "pair", .tup L], .tup [.str "sum", .tup L, odd]] := ⟨_, rfl⟩
  obtain ⟨m4, h4⟩ : ∃ x, x = ((m3.new (.lst L)).new (.lst SL)).new (.lst TL) := ⟨_, rfl⟩
  have gS : m4.get (m3.new (.lst L)).n = some (.lst SL) := by rw [h4]; exact get_new_old get_new_self
  have gT : m4.get ((m3.new (.lst L)).new (.lst SL)).n = some (.lst TL) := by rw [h4]; exact get_new_self
  have z4 := add_rr gS gT (by rw [hSL, hTL]; show 11 ≤ 16777216; decide)
  have p4 : Pot a (m4.new (.lst (SL ++ TL))) := by rw [h4]; exact p3.new.new.new.new
  have l3 := p3.lt
  have l4 : m4.n = m3.n + 3 := by rw [h4]; rfl
  obtain ⟨u, m5, z5, ⟨r5, e5⟩, p5, x5⟩ := pick_ok p4 (b := m4.n) get_new_self (by omega) (by rw [hSL, hTL]; show 0 < 11; decide) (by rw [hSL, hTL]; show 11 < 1073741824; decide) k hk
  have x4 : Ext a m3 (m4.new (.lst (SL ++ TL))) := by rw [h4]; exact Ext.trans .new (Ext.trans .new (Ext.trans .new .new))
  have xx3 : Ext a m m3 := Ext.trans (Ext.trans .new (Ext.trans .new .new)) (x2.trans (Ext.trans .new x3))
  have nL5 : Nice a m5 L w h := nL.mono (xx3.trans (x4.trans x5))
  have no5 : Nice a m5 [odd] 150 2 := nodd.mono (Ext.trans .new (x3.trans (x4.trans x5)))
  refine ⟨u, m5, ?_, ?_, p5, xx3.trans (x4.trans x5)⟩
  · subst h4 hSL hTL
    simp only [wordL, add_new] at z3
    simp only [oddL, add_new] at z2
    simp only [add_new, List.cons_append, List.nil_append] at z4 z5
    simp only [bentR, of_some, v_lit, v_var, v_nil, v_dct0, v_none, x_nil, x_cont, y_nm, y_nil, g_bin20, e_bin1, g_bin10, e_un1, g_un10, g_cons20, e_cons1, g_cons10, g_tup20, e_tup1, g_tup10, g_lst20, e_lst1, g_lst10, g_fun20, e_fun1, g_fun10, g_key20, e_key1, g_key10, e_ap1, g_ap10, e_pick, g_pick0, g_pick1, g_pick2, g_pick3, e_sif, e_and1, g_and10, g_and11, e_or1, g_or10, g_or11, e_not1, g_not, g_chain40, g_chain30, g_chain31, g_chain20, e_chain1, g_chain10, e_val1, g_val, e_tru1, g_tru10, e_tand, g_tand0, g_tand1, e_tor, g_tor0, g_tor1, e_tnot, g_tnot, g_isi2, e_isi1, g_isi10, g_sl30, g_sl20, e_sl1, g_sl10, e_part1, g_part10, g_meA0, e_me0, g_me00, g_meB0, e_me1, g_me10, e_seq1, g_seq10, g_seq11, g_seq12, e_ret1, g_ret10, e_expr1, g_expr10, g_asg20, e_asg1, g_asg10, g_par20, e_par1, g_par10, e_gtup, g_gtup0, e_gs1, g_gs10, g_sub20, e_sub1, g_sub10, g_run10, g_run11, add_ii, ixt0, ixt1, ixt2, len_t0, len_t1, len_t2, len_t3, mkS, List.map_cons, List.map_nil, List.replicate, List.cons_append, List.nil_append, List.length_cons, List.length_nil, Nat.zero_add, Nat.reduceAdd, Nat.reduceBEq, Nat.beq, cond_true, cond_false, nth, setN, at?, oSub, oMul, oDiv, oMod, uNeg, oCmpI, oLt, oLe, oGt, oGe, subS, setAll, bInt, bDivmod, bAbs, bMax2, truM, isTys, isTy, Bool.or_false, Bool.false_or, Bool.true_or, Bool.or_true, Bool.and_true, Bool.true_and, Bool.and_false, Bool.false_and, Bool.not_true, Bool.not_false, eq_str, eq_int, ne_str, ne_int, nat_beq, Int.reduceEq, Int.reduceLT, Int.reduceLE, decide_true, decide_false, reduceCtorEq, slM, ft0, ft1, ft2, ft3, ft5, ft6, ft8, ft15, neg_i, pow20, add_tt, lst_t, z2, z3, c1, c2, c3, c4, f1, f2, f3, f4, f5, f6, z4, z5, add_new]
  · have wd : ∀ (s : Str), PyData.leavesShort 22 (.str s) = true → PyData.canLay0 (.str s) = true → s.cps.size ≤ 6 → Nice a m5 [.str s] 7 0 := fun s h1 h2 h3 => nice_str (n := 6) h1 h2 h3
    have gL : m5.get m3.n = some (.lst L) := by
      refine (x5.keep m3.n _ (by omega) ?_)
      rw [h4]; exact get_new_old (get_new_old (get_new_old get_new_self))
    have e5 : at? (SL ++ TL) r5 = some u := e5
    rw [hSL, hTL] at e5
    match r5, e5 with
    | 0, e => cases e; exact (((nL5.take n).app no5).app (nL5.drop n)).tup.le (by omega) (by omega)
    | 1, e => cases e; exact (((nL5.take n).app no5).app (nL5.drop (n + 1))).tup.le (by omega) (by omega)
    | 2, e => cases e; exact ((nL5.take n).app (nL5.drop (n + 1))).tup.le (by omega) (by omega)
    | 3, e => cases e; exact (Nice.lst (by omega) gL nL5).le (by omega) (by omega)
    | 4, e => cases e; exact (nL5.drop 1).tup.le (by omega) (by omega)
    | 5, e => cases e; exact (nL5.app (nL5.drop 1)).tup.le (by omega) (by omega)
    | 6, e => cases e; exact ((ns m5).cons (nL5.drop 1)).tup.le (by omega) (by omega)
    | 7, e => cases e; exact nL5.tup.tup.le (by omega) (by omega)
    | 8, e => cases e; exact ((wd _ (by decide +kernel) (by decide +kernel) (by decide +kernel)).cons (nL5.tup.cons nL5.tup)).tup.le (by omega) (by omega)
    | 9, e => cases e; exact ((wd _ (by decide +kernel) (by decide +kernel) (by decide +kernel)).cons nL5.tup).tup.le (by omega) (by omega)
    | 10, e => cases e; exact ((wd _ (by decide +kernel) (by decide +kernel) (by decide +kernel)).cons (nL5.tup.cons no5)).tup.le (by omega) (by omega)
end W_k11

set_option Elab.async false
set_option linter.all false
set_option maxRecDepth 100000
set_option maxHeartbeats 4000000
namespace W_k11
open PySem Mini
theorem bent_ok {d : Nat} {v : MV} (h : Kn d v) : ∀ {a : Nat} {m : M}, Pot a m → ∀ k, d + 4 ≤ k → ∃ u m', tab bodies k 14 [.ref a, v] m = .ok u m' ∧ Nice a m' [u] (1000 * 2 ^ d) (d + 5) ∧ Pot a m' ∧ Ext a m m' := by
  have one_le : ∀ n : Nat, 1 ≤ 2 ^ n := fun n => Nat.one_le_two_pow
  have code : ∀ F, c__law_bent F = sSeq ((sAsg (cBin oAdd (cLit (.int 1)) (cFun F 7 2 (aCons (cVar 0) (aCons (cAp bLen (aCons (cVar 1) aNil)) aNil)))) (gNm 2))) (sSeq ((sIf (tAndC (tVal (cBin oLt (cVar 2) (cAp bLen (aCons (cVar 1) aNil)))) (tAndC (tTru (cIsi (cBin oIx (cVar 1) (cVar 2)) [.tuple])) (tVal (cBin oGt (cFun F 7 2 (aCons (cVar 0) (aCons (cLit (.int 4)) aNil))) (cLit (.int 0)))))) (sRet (cBin oAdd (cBin oAdd (cSl (cVar 1) oNone (oPart (cVar 2))) (cTup (aCons (cFun F 14 2 (aCons (cVar 0) (aCons (cBin oIx (cVar 1) (cVar 2)) aNil))) aNil))) (cSl (cVar 1) (oPart (cBin oAdd (cVar 2) (cLit (.int 1)))) oNone))) sNil)) (bentR F)) := fun F => rfl
  induction h with
  | @one d =>
    intro a m p k hk; obtain ⟨k, rfl⟩ : ∃ j, k = j + 2 := ⟨k - 2, by omega⟩
    have o := one_le d
    have nL : Nice a m [.str "one"] 4 0 := nice_str (n := 3) (by decide +kernel) (by decide +kernel) (by decide +kernel)
    obtain ⟨r, m1, z1, p1, x1, r0, r1⟩ := draw_ok p (many := 1) (by decide) (by decide) k
    have e : (1 : Int) + r = ((1 : Nat) : Int) := by omega
    have lt : decide (((1 : Nat) : Int) < 1) = false := rfl
    obtain ⟨u, m2, z2, n2, p2, x2⟩ := bent_rest (n := 1) p1 (nL.mono x1) (by decide) (by decide) (k + 1) (by omega)
    refine ⟨u, m2, ?_, n2.le (by omega) (by omega), p2, x1.trans x2⟩
    rw [show tab bodies (k + 2) 14 = runB 2 7 (c__law_bent (tab bodies (k + 1))) from rfl, x_run rfl, code]
    simp only [of_some, v_lit, v_var, v_nil, v_dct0, v_none, x_nil, x_cont, y_nm, y_nil, g_bin20, e_bin1, g_bin10, e_un1, g_un10, g_cons20, e_cons1, g_cons10, g_tup20, e_tup1, g_tup10, g_lst20, e_lst1, g_lst10, g_fun20, e_fun1, g_fun10, g_key20, e_key1, g_key10, e_ap1, g_ap10, e_pick, g_pick0, g_pick1, g_pick2, g_pick3, e_sif, e_and1, g_and10, g_and11, e_or1, g_or10, g_or11, e_not1, g_not, g_chain40, g_chain30, g_chain31, g_chain20, e_chain1, g_chain10, e_val1, g_val, e_tru1, g_tru10, e_tand, g_tand0, g_tand1, e_tor, g_tor0, g_tor1, e_tnot, g_tnot, g_isi2, e_isi1, g_isi10, g_sl30, g_sl20, e_sl1, g_sl10, e_part1, g_part10, g_meA0, e_me0, g_me00, g_meB0, e_me1, g_me10, e_seq1, g_seq10, g_seq11, g_seq12, e_ret1, g_ret10, e_expr1, g_expr10, g_asg20, e_asg1, g_asg10, g_par20, e_par1, g_par10, e_gtup, g_gtup0, e_gs1, g_gs10, g_sub20, e_sub1, g_sub10, g_run10, g_run11, add_ii, ixt0, ixt1, ixt2, len_t0, len_t1, len_t2, len_t3, mkS, List.map_cons, List.map_nil, List.replicate, List.cons_append, List.nil_append, List.length_cons, List.length_nil, Nat.zero_add, Nat.reduceAdd, Nat.reduceBEq, Nat.beq, cond_true, cond_false, nth, setN, at?, oSub, oMul, oDiv, oMod, uNeg, oCmpI, oLt, oLe, oGt, oGe, subS, setAll, bInt, bDivmod, bAbs, bMax2, truM, isTys, isTy, Bool.or_false, Bool.false_or, Bool.true_or, Bool.or_true, Bool.and_true, Bool.true_and, Bool.and_false, Bool.false_and, Bool.not_true, Bool.not_false, eq_str, eq_int, ne_str, ne_int, nat_beq, Int.reduceEq, Int.reduceLT, Int.reduceLE, decide_true, decide_false, reduceCtorEq, z1, e, lt, z2]
  | @let_ d i h0 h1 =>
    intro a m p k hk; obtain ⟨k, rfl⟩ : ∃ j, k = j + 2 := ⟨k - 2, by omega⟩
    have o := one_le d
    have nL : Nice a m [.str "letter", .int i] (7 + 4) 0 := ((nice_str (n := 6) (by decide +kernel) (by decide +kernel) (by decide +kernel)).cons (small_int (by omega) (by omega))).le (Nat.le_refl _) (by decide)
    obtain ⟨r, m1, z1, p1, x1, r0, r1⟩ := draw_ok p (many := 2) (by decide) (by decide) k
    rw [show tab bodies (k + 2) 14 = runB 2 7 (c__law_bent (tab bodies (k + 1))) from rfl, x_run rfl, code]
    rcases (show r = 0 ∨ r = 1 by omega) with rfl | rfl
    · have e : (1 : Int) + 0 = ((1 : Nat) : Int) := by omega
      have lt : decide (((1 : Nat) : Int) < 2) = true := rfl
      have ix : ∀ m, oIx (.tup [.str "letter", .int i]) (.int ((1 : Nat) : Int)) m = .ok (.int i) m := fun _ => rfl
      obtain ⟨u, m2, z2, n2, p2, x2⟩ := bent_rest (n := 1) p1 (nL.mono x1) (by show 2 ≤ 3; decide) (by show 1 ≤ 2; decide) (k + 1) (by omega)
      exact ⟨u, m2, by simp only [of_some, v_lit, v_var, v_nil, v_dct0, v_none, x_nil, x_cont, y_nm, y_nil, g_bin20, e_bin1, g_bin10, e_un1, g_un10, g_cons20, e_cons1, g_cons10, g_tup20, e_tup1, g_tup10, g_lst20, e_lst1, g_lst10, g_fun20, e_fun1, g_fun10, g_key20, e_key1, g_key10, e_ap1, g_ap10, e_pick, g_pick0, g_pick1, g_pick2, g_pick3, e_sif, e_and1, g_and10, g_and11, e_or1, g_or10, g_or11, e_not1, g_not, g_chain40, g_chain30, g_chain31, g_chain20, e_chain1, g_chain10, e_val1, g_val, e_tru1, g_tru10, e_tand, g_tand0, g_tand1, e_tor, g_tor0, g_tor1, e_tnot, g_tnot, g_isi2, e_isi1, g_isi10, g_sl30, g_sl20, e_sl1, g_sl10, e_part1, g_part10, g_meA0, e_me0, g_me00, g_meB0, e_me1, g_me10, e_seq1, g_seq10, g_seq11, g_seq12, e_ret1, g_ret10, e_expr1, g_expr10, g_asg20, e_asg1, g_asg10, g_par20, e_par1, g_par10, e_gtup, g_gtup0, e_gs1, g_gs10, g_sub20, e_sub1, g_sub10, g_run10, g_run11, add_ii, ixt0, ixt1, ixt2, len_t0, len_t1, len_t2, len_t3, mkS, List.map_cons, List.map_nil, List.replicate, List.cons_append, List.nil_append, List.length_cons, List.length_nil, Nat.zero_add, Nat.reduceAdd, Nat.reduceBEq, Nat.beq, cond_true, cond_false, nth, setN, at?, oSub, oMul, oDiv, oMod, uNeg, oCmpI, oLt, oLe, oGt, oGe, subS, setAll, bInt, bDivmod, bAbs, bMax2, truM, isTys, isTy, Bool.or_false, Bool.false_or, Bool.true_or, Bool.or_true, Bool.and_true, Bool.true_and, Bool.and_false, Bool.false_and, Bool.not_true, Bool.not_false, eq_str, eq_int, ne_str, ne_int, nat_beq, Int.reduceEq, Int.reduceLT, Int.reduceLE, decide_true, decide_false, reduceCtorEq, z1, e, lt, ix, z2], n2.le (by omega) (by omega), p2, x1.trans x2⟩
    · have e : (1 : Int) + 1 = ((2 : Nat) : Int) := by omega
      have lt : decide (((2 : Nat) : Int) < 2) = false := rfl
      obtain ⟨u, m2, z2, n2, p2, x2⟩ := bent_rest (n := 2) p1 (nL.mono x1) (by show 2 ≤ 3; decide) (by show 2 ≤ 2; decide) (k + 1) (by omega)
      exact ⟨u, m2, by simp only [of_some, v_lit, v_var, v_nil, v_dct0, v_none, x_nil, x_cont, y_nm, y_nil, g_bin20, e_bin1, g_bin10, e_un1, g_un10, g_cons20, e_cons1, g_cons10, g_tup20, e_tup1, g_tup10, g_lst20, e_lst1, g_lst10, g_fun20, e_fun1, g_fun10, g_key20, e_key1, g_key10, e_ap1, g_ap10, e_pick, g_pick0, g_pick1, g_pick2, g_pick3, e_sif, e_and1, g_and10, g_and11, e_or1, g_or10, g_or11, e_not1, g_not, g_chain40, g_chain30, g_chain31, g_chain20, e_chain1, g_chain10, e_val1, g_val, e_tru1, g_tru10, e_tand, g_tand0, g_tand1, e_tor, g_tor0, g_tor1, e_tnot, g_tnot, g_isi2, e_isi1, g_isi10, g_sl30, g_sl20, e_sl1, g_sl10, e_part1, g_part10, g_meA0, e_me0, g_me00, g_meB0, e_me1, g_me10, e_seq1, g_seq10, g_seq11, g_seq12, e_ret1, g_ret10, e_expr1, g_expr10, g_asg20, e_asg1, g_asg10, g_par20, e_par1, g_par10, e_gtup, g_gtup0, e_gs1, g_gs10, g_sub20, e_sub1, g_sub10, g_run10, g_run11, add_ii, ixt0, ixt1, ixt2, len_t0, len_t1, len_t2, len_t3, mkS, List.map_cons, List.map_nil, List.replicate, List.cons_append, List.nil_append, List.length_cons, List.length_nil, Nat.zero_add, Nat.reduceAdd, Nat.reduceBEq, Nat.beq, cond_true, cond_false, nth, setN, at?, oSub, oMul, oDiv, oMod, uNeg, oCmpI, oLt, oLe, oGt, oGe, subS, setAll, bInt, bDivmod, bAbs, bMax2, truM, isTys, isTy, Bool.or_false, Bool.false_or, Bool.true_or, Bool.or_true, Bool.and_true, Bool.true_and, Bool.and_false, Bool.false_and, Bool.not_true, Bool.not_false, eq_str, eq_int, ne_str, ne_int, nat_beq, Int.reduceEq, Int.reduceLT, Int.reduceLE, decide_true, decide_false, reduceCtorEq, z1, e, lt, z2], n2.le (by omega) (by omega), p2, x1.trans x2⟩
  | @two d s x y hs kx ky ix iy =>
    intro a m p k hk; obtain ⟨k, rfl⟩ : ∃ j, k = j + 2 := ⟨k - 2, by omega⟩
    have o := one_le d
    have ns : ∀ m, Nice a m [.str s] 5 0 := fun m => by rcases hs with rfl | rfl | rfl <;> exact nice_str (n := 4) (by decide +kernel) (by decide +kernel) (by decide +kernel)
    have nL : Nice a m [.str s, x, y] (5 + ((20 * 2 ^ d - 8) + (20 * 2 ^ d - 8))) (d + 1) := ((ns m).cons (kx.nice.cons ky.nice)).le (Nat.le_refl _) (by omega)
    have tx : ∀ {u : MV} {d : Nat}, Kn d u → ∃ l, u = .tup l := fun h => by cases h <;> exact ⟨_, rfl⟩
    obtain ⟨lx, ex⟩ := tx kx
    obtain ⟨ly, ey⟩ := tx ky
    obtain ⟨r, m1, z1, p1, x1, r0, r1⟩ := draw_ok p (many := 3) (by decide) (by decide) k
    rw [show tab bodies (k + 2) 14 = runB 2 7 (c__law_bent (tab bodies (k + 1))) from rfl, x_run rfl, code]
    have pw : 2 ^ (d + 1) = 2 * 2 ^ d := by rw [Nat.pow_succ]; omega
    rcases (show r = 0 ∨ r = 1 ∨ r = 2 by omega) with rfl | rfl | rfl
    · have e : (1 : Int) + 0 = ((1 : Nat) : Int) := by omega
      have lt : decide (((1 : Nat) : Int) < 3) = true := rfl
      have ixx : ∀ m, oIx (.tup [.str s, x, y]) (.int ((1 : Nat) : Int)) m = .ok x m := fun _ => rfl
      obtain ⟨q, m2, z2, p2, x2, q0, q1⟩ := draw_ok p1 (many := 4) (by decide) (by decide) k
      by_cases hq : 0 < q
      · obtain ⟨u, m3, z3, n3, p3, x3⟩ := ix p2 (k + 1) (by omega)
        have c1 : cutM [.str s, x, y] none (some ((1 : Nat) : Int)) = [.str s] := cut_take (n := 1) (by show 1 ≤ 3; decide)
        have c2 : cutM [.str s, x, y] (some (((1 : Nat) : Int) + 1)) none = [y] := cut_drop (n := 2)
        exact ⟨.tup [.str s, u, y], m3, by subst ex; simp only [of_some, v_lit, v_var, v_nil, v_dct0, v_none, x_nil, x_cont, y_nm, y_nil, g_bin20, e_bin1, g_bin10, e_un1, g_un10, g_cons20, e_cons1, g_cons10, g_tup20, e_tup1, g_tup10, g_lst20, e_lst1, g_lst10, g_fun20, e_fun1, g_fun10, g_key20, e_key1, g_key10, e_ap1, g_ap10, e_pick, g_pick0, g_pick1, g_pick2, g_pick3, e_sif, e_and1, g_and10, g_and11, e_or1, g_or10, g_or11, e_not1, g_not, g_chain40, g_chain30, g_chain31, g_chain20, e_chain1, g_chain10, e_val1, g_val, e_tru1, g_tru10, e_tand, g_tand0, g_tand1, e_tor, g_tor0, g_tor1, e_tnot, g_tnot, g_isi2, e_isi1, g_isi10, g_sl30, g_sl20, e_sl1, g_sl10, e_part1, g_part10, g_meA0, e_me0, g_me00, g_meB0, e_me1, g_me10, e_seq1, g_seq10, g_seq11, g_seq12, e_ret1, g_ret10, e_expr1, g_expr10, g_asg20, e_asg1, g_asg10, g_par20, e_par1, g_par10, e_gtup, g_gtup0, e_gs1, g_gs10, g_sub20, e_sub1, g_sub10, g_run10, g_run11, add_ii, ixt0, ixt1, ixt2, len_t0, len_t1, len_t2, len_t3, mkS, List.map_cons, List.map_nil, List.replicate, List.cons_append, List.nil_append, List.length_cons, List.length_nil, Nat.zero_add, Nat.reduceAdd, Nat.reduceBEq, Nat.beq, cond_true, cond_false, nth, setN, at?, oSub, oMul, oDiv, oMod, uNeg, oCmpI, oLt, oLe, oGt, oGe, subS, setAll, bInt, bDivmod, bAbs, bMax2, truM, isTys, isTy, Bool.or_false, Bool.false_or, Bool.true_or, Bool.or_true, Bool.and_true, Bool.true_and, Bool.and_false, Bool.false_and, Bool.not_true, Bool.not_false, eq_str, eq_int, ne_str, ne_int, nat_beq, Int.reduceEq, Int.reduceLT, Int.reduceLE, decide_true, decide_false, reduceCtorEq, z1, e, lt, ixx, z2, decide_eq_true hq, z3, slM, c1, c2, add_tt, ft1, ft2, ft3], (((ns m3).cons (n3.cons ky.nice)).tup).le (by omega) (by omega), p3, x1.trans (x2.trans x3)⟩
      · obtain ⟨u, m3, z3, n3, p3, x3⟩ := bent_rest (n := 1) p2 (nL.mono (x1.trans x2)) (by show 3 ≤ 3; decide) (by show 1 ≤ 3; decide) (k + 1) (by omega)
        exact ⟨u, m3, by subst ex; simp only [of_some, v_lit, v_var, v_nil, v_dct0, v_none, x_nil, x_cont, y_nm, y_nil, g_bin20, e_bin1, g_bin10, e_un1, g_un10, g_cons20, e_cons1, g_cons10, g_tup20, e_tup1, g_tup10, g_lst20, e_lst1, g_lst10, g_fun20, e_fun1, g_fun10, g_key20, e_key1, g_key10, e_ap1, g_ap10, e_pick, g_pick0, g_pick1, g_pick2, g_pick3, e_sif, e_and1, g_and10, g_and11, e_or1, g_or10, g_or11, e_not1, g_not, g_chain40, g_chain30, g_chain31, g_chain20, e_chain1, g_chain10, e_val1, g_val, e_tru1, g_tru10, e_tand, g_tand0, g_tand1, e_tor, g_tor0, g_tor1, e_tnot, g_tnot, g_isi2, e_isi1, g_isi10, g_sl30, g_sl20, e_sl1, g_sl10, e_part1, g_part10, g_meA0, e_me0, g_me00, g_meB0, e_me1, g_me10, e_seq1, g_seq10, g_seq11, g_seq12, e_ret1, g_ret10, e_expr1, g_expr10, g_asg20, e_asg1, g_asg10, g_par20, e_par1, g_par10, e_gtup, g_gtup0, e_gs1, g_gs10, g_sub20, e_sub1, g_sub10, g_run10, g_run11, add_ii, ixt0, ixt1, ixt2, len_t0, len_t1, len_t2, len_t3, mkS, List.map_cons, List.map_nil, List.replicate, List.cons_append, List.nil_append, List.length_cons, List.length_nil, Nat.zero_add, Nat.reduceAdd, Nat.reduceBEq, Nat.beq, cond_true, cond_false, nth, setN, at?, oSub, oMul, oDiv, oMod, uNeg, oCmpI, oLt, oLe, oGt, oGe, subS, setAll, bInt, bDivmod, bAbs, bMax2, truM, isTys, isTy, Bool.or_false, Bool.false_or, Bool.true_or, Bool.or_true, Bool.and_true, Bool.true_and, Bool.and_false, Bool.false_and, Bool.not_true, Bool.not_false, eq_str, eq_int, ne_str, ne_int, nat_beq, Int.reduceEq, Int.reduceLT, Int.reduceLE, decide_true, decide_false, reduceCtorEq, z1, e, lt, ixx, z2, decide_eq_false hq, z3], n3.le (by omega) (by omega), p3, x1.trans (x2.trans x3)⟩
    · have e : (1 : Int) + 1 = ((2 : Nat) : Int) := by omega
      have lt : decide (((2 : Nat) : Int) < 3) = true := rfl
      have ixx : ∀ m, oIx (.tup [.str s, x, y]) (.int ((2 : Nat) : Int)) m = .ok y m := fun _ => rfl
      obtain ⟨q, m2, z2, p2, x2, q0, q1⟩ := draw_ok p1 (many := 4) (by decide) (by decide) k
      by_cases hq : 0 < q
      · obtain ⟨u, m3, z3, n3, p3, x3⟩ := iy p2 (k + 1) (by omega)
        have c1 : cutM [.str s, x, y] none (some ((2 : Nat) : Int)) = [.str s, x] := cut_take (n := 2) (by show 2 ≤ 3; decide)
        have c2 : cutM [.str s, x, y] (some (((2 : Nat) : Int) + 1)) none = [] := cut_drop (n := 3)
        exact ⟨.tup [.str s, x, u], m3, by subst ey; simp only [of_some, v_lit, v_var, v_nil, v_dct0, v_none, x_nil, x_cont, y_nm, y_nil, g_bin20, e_bin1, g_bin10, e_un1, g_un10, g_cons20, e_cons1, g_cons10, g_tup20, e_tup1, g_tup10, g_lst20, e_lst1, g_lst10, g_fun20, e_fun1, g_fun10, g_key20, e_key1, g_key10, e_ap1, g_ap10, e_pick, g_pick0, g_pick1, g_pick2, g_pick3, e_sif, e_and1, g_and10, g_and11, e_or1, g_or10, g_or11, e_not1, g_not, g_chain40, g_chain30, g_chain31, g_chain20, e_chain1, g_chain10, e_val1, g_val, e_tru1, g_tru10, e_tand, g_tand0, g_tand1, e_tor, g_tor0, g_tor1, e_tnot, g_tnot, g_isi2, e_isi1, g_isi10, g_sl30, g_sl20, e_sl1, g_sl10, e_part1, g_part10, g_meA0, e_me0, g_me00, g_meB0, e_me1, g_me10, e_seq1, g_seq10, g_seq11, g_seq12, e_ret1, g_ret10, e_expr1, g_expr10, g_asg20, e_asg1, g_asg10, g_par20, e_par1, g_par10, e_gtup, g_gtup0, e_gs1, g_gs10, g_sub20, e_sub1, g_sub10, g_run10, g_run11, add_ii, ixt0, ixt1, ixt2, len_t0, len_t1, len_t2, len_t3, mkS, List.map_cons, List.map_nil, List.replicate, List.cons_append, List.nil_append, List.length_cons, List.length_nil, Nat.zero_add, Nat.reduceAdd, Nat.reduceBEq, Nat.beq, cond_true, cond_false, nth, setN, at?, oSub, oMul, oDiv, oMod, uNeg, oCmpI, oLt, oLe, oGt, oGe, subS, setAll, bInt, bDivmod, bAbs, bMax2, truM, isTys, isTy, Bool.or_false, Bool.false_or, Bool.true_or, Bool.or_true, Bool.and_true, Bool.true_and, Bool.and_false, Bool.false_and, Bool.not_true, Bool.not_false, eq_str, eq_int, ne_str, ne_int, nat_beq, Int.reduceEq, Int.reduceLT, Int.reduceLE, decide_true, decide_false, reduceCtorEq, z1, e, lt, ixx, z2, decide_eq_true hq, z3, slM, c1, c2, add_tt, ft1, ft2, ft3, Nat.add_zero, List.append_nil], (((ns m3).cons (kx.nice.cons n3)).tup).le (by omega) (by omega), p3, x1.trans (x2.trans x3)⟩
      · obtain ⟨u, m3, z3, n3, p3, x3⟩ := bent_rest (n := 2) p2 (nL.mono (x1.trans x2)) (by show 3 ≤ 3; decide) (by show 2 ≤ 3; decide) (k + 1) (by omega)
        exact ⟨u, m3, by subst ey; simp only [of_some, v_lit, v_var, v_nil, v_dct0, v_none, x_nil, x_cont, y_nm, y_nil, g_bin20, e_bin1, g_bin10, e_un1, g_un10, g_cons20, e_cons1, g_cons10, g_tup20, e_tup1, g_tup10, g_lst20, e_lst1, g_lst10, g_fun20, e_fun1, g_fun10, g_key20, e_key1, g_key10, e_ap1, g_ap10, e_pick, g_pick0, g_pick1, g_pick2, g_pick3, e_sif, e_and1, g_and10, g_and11, e_or1, g_or10, g_or11, e_not1, g_not, g_chain40, g_chain30, g_chain31, g_chain20, e_chain1, g_chain10, e_val1, g_val, e_tru1, g_tru10, e_tand, g_tand0, g_tand1, e_tor, g_tor0, g_tor1, e_tnot, g_tnot, g_isi2, e_isi1, g_isi10, g_sl30, g_sl20, e_sl1, g_sl10, e_part1, g_part10, g_meA0, e_me0, g_me00, g_meB0, e_me1, g_me10, e_seq1, g_seq10, g_seq11, g_seq12, e_ret1, g_ret10, e_expr1, g_expr10, g_asg20, e_asg1, g_asg10, g_par20, e_par1, g_par10, e_gtup, g_gtup0, e_gs1, g_gs10, g_sub20, e_sub1, g_sub10, g_run10, g_run11, add_ii, ixt0, ixt1, ixt2, len_t0, len_t1, len_t2, len_t3, mkS, List.map_cons, List.map_nil, List.replicate, List.cons_append, List.nil_append, List.length_cons, List.length_nil, Nat.zero_add, Nat.reduceAdd, Nat.reduceBEq, Nat.beq, cond_true, cond_false, nth, setN, at?, oSub, oMul, oDiv, oMod, uNeg, oCmpI, oLt, oLe, oGt, oGe, subS, setAll, bInt, bDivmod, bAbs, bMax2, truM, isTys, isTy, Bool.or_false, Bool.false_or, Bool.true_or, Bool.or_true, Bool.and_true, Bool.true_and, Bool.and_false, Bool.false_and, Bool.not_true, Bool.not_false, eq_str, eq_int, ne_str, ne_int, nat_beq, Int.reduceEq, Int.reduceLT, Int.reduceLE, decide_true, decide_false, reduceCtorEq, z1, e, lt, ixx, z2, decide_eq_false hq, z3], n3.le (by omega) (by omega), p3, x1.trans (x2.trans x3)⟩
    · have e : (1 : Int) + 2 = ((3 : Nat) : Int) := by omega
      have lt : decide (((3 : Nat) : Int) < 3) = false := rfl
      obtain ⟨u, m2, z2, n2, p2, x2⟩ := bent_rest (n := 3) p1 (nL.mono x1) (by show 3 ≤ 3; decide) (by show 3 ≤ 3; decide) (k + 1) (by omega)
      exact ⟨u, m2, by simp only [of_some, v_lit, v_var, v_nil, v_dct0, v_none, x_nil, x_cont, y_nm, y_nil, g_bin20, e_bin1, g_bin10, e_un1, g_un10, g_cons20, e_cons1, g_cons10, g_tup20, e_tup1, g_tup10, g_lst20, e_lst1, g_lst10, g_fun20, e_fun1, g_fun10, g_key20, e_key1, g_key10, e_ap1, g_ap10, e_pick, g_pick0, g_pick1, g_pick2, g_pick3, e_sif, e_and1, g_and10, g_and11, e_or1, g_or10, g_or11, e_not1, g_not, g_chain40, g_chain30, g_chain31, g_chain20, e_chain1, g_chain10, e_val1, g_val, e_tru1, g_tru10, e_tand, g_tand0, g_tand1, e_tor, g_tor0, g_tor1, e_tnot, g_tnot, g_isi2, e_isi1, g_isi10, g_sl30, g_sl20, e_sl1, g_sl10, e_part1, g_part10, g_meA0, e_me0, g_me00, g_meB0, e_me1, g_me10, e_seq1, g_seq10, g_seq11, g_seq12, e_ret1, g_ret10, e_expr1, g_expr10, g_asg20, e_asg1, g_asg10, g_par20, e_par1, g_par10, e_gtup, g_gtup0, e_gs1, g_gs10, g_sub20, e_sub1, g_sub10, g_run10, g_run11, add_ii, ixt0, ixt1, ixt2, len_t0, len_t1, len_t2, len_t3, mkS, List.map_cons, List.map_nil, List.replicate, List.cons_append, List.nil_append, List.length_cons, List.length_nil, Nat.zero_add, Nat.reduceAdd, Nat.reduceBEq, Nat.beq, cond_true, cond_false, nth, setN, at?, oSub, oMul, oDiv, oMod, uNeg, oCmpI, oLt, oLe, oGt, oGe, subS, setAll, bInt, bDivmod, bAbs, bMax2, truM, isTys, isTy, Bool.or_false, Bool.false_or, Bool.true_or, Bool.or_true, Bool.and_true, Bool.true_and, Bool.and_false, Bool.false_and, Bool.not_true, Bool.not_false, eq_str, eq_int, ne_str, ne_int, nat_beq, Int.reduceEq, Int.reduceLT, Int.reduceLE, decide_true, decide_false, reduceCtorEq, z1, e, lt, z2], n2.le (by omega) (by omega), p2, x1.trans x2⟩
end W_k11

set_option Elab.async false
set_option linter.all false
set_option maxRecDepth 100000
set_option maxHeartbeats 4000000
namespace W_k11
open PySem Mini
/-- all but a and c stays -/
structure Ext2 (a c : Nat) (m m' : M) : Prop where
  le : m.n ≤ m'.n
  keep : ∀ b o, b ≠ a → b ≠ c → m.get b = some o → m'.get b = some o
theorem Ext2.of {a c : Nat} {m m' : M} (x : Ext a m m') : Ext2 a c m m' := ⟨x.le, fun b o h _ g => x.keep b o h g⟩
theorem Ext2.trans {a c : Nat} {m m1 m2 : M} (x : Ext2 a c m m1) (y : Ext2 a c m1 m2) : Ext2 a c m m2 := ⟨Nat.le_trans x.le y.le, fun b o h h2 g => y.keep b o h h2 (x.keep b o h h2 g)⟩
theorem Ext2.put {a c : Nat} {m : M} {o : MO} (h : c < m.n) : Ext2 a c m (m.put c o) := ⟨Nat.le_refl _, fun b o' _ e g => by rw [get_put_ne h e]; exact g⟩
theorem dts_old {a c : Nat} {m m' : M} (x : Ext2 a c m m') (hc : m.n ≤ c) {l : List MV} {ds : List PyData} (h : Dts a m l ds) : Dts a m' l ds := by
  induction h with
  | nil => exact .nil
  | non _ ih => exact .non ih
  | bl _ ih => exact .bl ih
  | int _ ih => exact .int ih
  | str _ ih => exact .str ih
  | tup _ _ i1 i2 => exact .tup i1 i2
  | lst e g _ _ i1 i2 => exact .lst e (x.keep _ _ e (by have := M.get_lt g; omega) g) i1 i2
theorem dts_hole {a c : Nat} {m : M} {o : MO} (g0 : m.get c = some .hole) {l : List MV} {ds : List PyData} (h : Dts a m l ds) : Dts a (m.put c o) l ds := by
  induction h with
  | nil => exact .nil
  | non _ ih => exact .non ih
  | bl _ ih => exact .bl ih
  | int _ ih => exact .int ih
  | str _ ih => exact .str ih
  | tup _ _ i1 i2 => exact .tup i1 i2
  | lst e g _ _ i1 i2 => exact .lst e (by rw [get_put_ne (M.get_lt g0) (fun z => by rw [z, g0] at g; cases g)]; exact g) i1 i2
theorem dts_refl {a : Nat} {m : M} {l : List MV} {ds : List PyData} (h : Dts a m l ds) : datsEq ds ds = true := by
  have se : ∀ x : Str, strEq x x = true := fun x => strEq_iff.mpr rfl
  induction h with
  | nil => rfl
  | non _ ih => simp only [datsEq, datEq, ih, Bool.and_true]
  | bl _ ih => simp only [datsEq, datEq, ih, Bool.and_true, beq_self_eq_true]
  | int _ ih => simp only [datsEq, datEq, ih, Bool.and_true, decide_true]
  | str _ ih => simp only [datsEq, datEq, ih, Bool.and_true, se]
  | tup _ _ i1 i2 => simp only [datsEq, datEq, i1, i2, Bool.and_true]
  | lst _ _ _ _ i1 i2 => simp only [datsEq, datEq, i1, i2, Bool.and_true]
theorem ne_rep {d : PyData} {m : M} (h : datEq d d = true) : oNe (.rep d) (.rep d) m = .ok (.bl false) m := by
  show (match eqM m (.rep d) (.rep d) with | some b => Rs.ok (MV.bl (!b)) m | none => .bad) = _
  show (match (some (bif datEq d d then true else strEq d.shown d.shown) : Option Bool) with | some b => Rs.ok (MV.bl (!b)) m | none => .bad) = _
  rw [h]; rfl
theorem rep_of {a : Nat} {m : M} {v : MV} {w h : Nat} (n : Nice a m [v] w h) (hw : w ≤ 600000) (hh : h ≤ 60) : ∃ d, Dts a m [v] [d] ∧ datEq d d = true ∧ ∀ m', Grow m m' → bRepr [v] m' = .ok (.rep d) m' := by
  obtain ⟨d, h1, _⟩ := n.repr hw hh
  refine ⟨d, h1, ?_, fun m' g => ?_⟩
  · have := dts_refl h1
    simpa only [datsEq, Bool.and_true] using this
  · obtain ⟨d2, k1, k2, k3, k4, _⟩ := (n.mono g.ext).repr hw hh
    have e : d2 = d := by
      have z1 := h1.mono g.ext
      have q1 := z1.toD (PyData.depthAll [d] + PyData.depthAll [d2] + 1) (by omega)
      have q2 := k1.toD (PyData.depthAll [d] + PyData.depthAll [d2] + 1) (by omega)
      rw [q1] at q2
      cases q2; rfl
    subst e
    show (bif isNoDict m' v then _ else match toD m' deepest v with
      | some d => bif d.showable && Mini.fits d.shown.length then Rs.ok (MV.rep d) m' else Rs.bad
      | none => Rs.bad) = _
    rw [k3, k2]
    show (bif d2.showable && Mini.fits d2.shown.length then _ else _) = _
    rw [k4]; rfl
theorem rep_two {a b : Nat} {m : M} {p : Bool} (ne : b ≠ a) (g : m.get b = some (.lst [.bl p, .bl p])) : bRepr [.ref b] m = .ok (.rep (.list [.bool p, .bool p])) m := by
  have b0 : ∀ {m : M} {b : Bool}, Nice a m [.bl b] 1 0 := ⟨[.bool _], .bl .nil, rfl, rfl, rfl, by simp [PyData.weightAll, PyData.weight], by simp [PyData.depthAll, PyData.depth]⟩
  obtain ⟨d, h1, _, h2⟩ := rep_of (Nice.lst ne g (b0.cons b0)) (by decide) (by decide)
  have e : d = .list [.bool p, .bool p] := by
    cases h1 with
    | lst _ g2 u _ =>
      rw [g] at g2; cases g2
      cases u with
      | bl u => cases u with
        | bl u => cases u; rfl
  subst e
  exact h2 m .refl
theorem isLst_of {m : M} {b : Nat} {l : List MV} (g : m.get b = some (.lst l)) : isLst m (.ref b) = true := by simp only [isLst, g]
theorem ext_rr {b c : Nat} {m : M} {l k : List MV} (g1 : m.get b = some (.lst l)) (g2 : m.get c = some (.lst k)) (h : l.length + k.length ≤ 16777216) : mExtend (.ref b) (.ref c) m = .ok .non (m.put b (.lst (l ++ k))) := by
  simp only [mExtend, g1, g2, fits_of h, cond_true]
/-- how a value goes through the loop -/
structure Val (k : Nat) (m0 : M) (v : MV) : Prop where
  ex : ∃ (D : Bool) (d : PyData), datEq d d = true ∧ ∀ m, Grow m0 m → (∃ m1, tab bodies k 13 [v] m = .ok (.bl D) m1 ∧ Grow m m1) ∧ bRepr [v] m = .ok (.rep d) m ∧ tab bodies k 5 [v] m = .ok (.bl D) m
theorem nice_val {a : Nat} {m0 : M} {v : MV} {w h : Nat} (n : Nice a m0 [v] w h) (hw : w ≤ 600000) (hh : h < 50) (k : Nat) (hk : 60 ≤ k) : Val k m0 v := by
  obtain ⟨d, _, h2, h3⟩ := rep_of n hw (by omega)
  exact ⟨due v, d, h2, fun m g => ⟨due_ok (n.mono g.ext) hw hh k hk, h3 m g, is_a_kind_ok (n.mono g.ext) hw (by omega) k (by omega)⟩⟩
theorem dct_val {m0 : M} {q : Nat} (g0 : m0.get q = some (.dct [])) (k : Nat) (hk : 60 ≤ k) : Val k m0 (.ref q) := by
  refine ⟨false, .dict [], rfl, fun m gr => ?_⟩
  have g := gr.keep _ _ g0
  obtain ⟨k, rfl⟩ : ∃ j, k = j + 3 := ⟨k - 3, by omega⟩
  refine ⟨⟨m, ?_, .refl⟩, ?_, ?_⟩
  · have z : tab bodies (k + 2) 12 [.ref q] m = .ok (.bl false) m := by
      rw [show tab bodies (k + 2) 12 = runB 1 1 (c__law_look (tab bodies (k + 1))) from rfl, x_run rfl]
      simp only [c__law_look, of_some, v_lit, v_var, v_nil, v_dct0, v_none, x_nil, x_cont, y_nm, y_nil, g_bin20, e_bin1, g_bin10, e_un1, g_un10, g_cons20, e_cons1, g_cons10, g_tup20, e_tup1, g_tup10, g_lst20, e_lst1, g_lst10, g_fun20, e_fun1, g_fun10, g_key20, e_key1, g_key10, e_ap1, g_ap10, e_pick, g_pick0, g_pick1, g_pick2, g_pick3, e_sif, e_and1, g_and10, g_and11, e_or1, g_or10, g_or11, e_not1, g_not, g_chain40, g_chain30, g_chain31, g_chain20, e_chain1, g_chain10, e_val1, g_val, e_tru1, g_tru10, e_tand, g_tand0, g_tand1, e_tor, g_tor0, g_tor1, e_tnot, g_tnot, g_isi2, e_isi1, g_isi10, g_sl30, g_sl20, e_sl1, g_sl10, e_part1, g_part10, g_meA0, e_me0, g_me00, g_meB0, e_me1, g_me10, e_seq1, g_seq10, g_seq11, g_seq12, e_ret1, g_ret10, e_expr1, g_expr10, g_asg20, e_asg1, g_asg10, g_par20, e_par1, g_par10, e_gtup, g_gtup0, e_gs1, g_gs10, g_sub20, e_sub1, g_sub10, g_run10, g_run11, add_ii, ixt0, ixt1, ixt2, len_t0, len_t1, len_t2, len_t3, mkS, List.map_cons, List.map_nil, List.replicate, List.cons_append, List.nil_append, List.length_cons, List.length_nil, Nat.zero_add, Nat.reduceAdd, Nat.reduceBEq, Nat.beq, cond_true, cond_false, nth, setN, at?, oSub, oMul, oDiv, oMod, uNeg, oCmpI, oLt, oLe, oGt, oGe, subS, setAll, bInt, bDivmod, bAbs, bMax2, truM, isTys, isTy, Bool.or_false, Bool.false_or, Bool.true_or, Bool.or_true, Bool.and_true, Bool.true_and, Bool.and_false, Bool.false_and, Bool.not_true, Bool.not_false, eq_str, eq_int, ne_str, ne_int, nat_beq, Int.reduceEq, Int.reduceLT, Int.reduceLE, decide_true, decide_false, reduceCtorEq, g]
    rw [show tab bodies (k + 3) 13 = runB 1 0 (c__law_is_kind (tab bodies (k + 2))) from rfl, x_run rfl]
    simp only [c__law_is_kind, of_some, v_lit, v_var, v_nil, v_dct0, v_none, x_nil, x_cont, y_nm, y_nil, g_bin20, e_bin1, g_bin10, e_un1, g_un10, g_cons20, e_cons1, g_cons10, g_tup20, e_tup1, g_tup10, g_lst20, e_lst1, g_lst10, g_fun20, e_fun1, g_fun10, g_key20, e_key1, g_key10, e_ap1, g_ap10, e_pick, g_pick0, g_pick1, g_pick2, g_pick3, e_sif, e_and1, g_and10, g_and11, e_or1, g_or10, g_or11, e_not1, g_not, g_chain40, g_chain30, g_chain31, g_chain20, e_chain1, g_chain10, e_val1, g_val, e_tru1, g_tru10, e_tand, g_tand0, g_tand1, e_tor, g_tor0, g_tor1, e_tnot, g_tnot, g_isi2, e_isi1, g_isi10, g_sl30, g_sl20, e_sl1, g_sl10, e_part1, g_part10, g_meA0, e_me0, g_me00, g_meB0, e_me1, g_me10, e_seq1, g_seq10, g_seq11, g_seq12, e_ret1, g_ret10, e_expr1, g_expr10, g_asg20, e_asg1, g_asg10, g_par20, e_par1, g_par10, e_gtup, g_gtup0, e_gs1, g_gs10, g_sub20, e_sub1, g_sub10, g_run10, g_run11, add_ii, ixt0, ixt1, ixt2, len_t0, len_t1, len_t2, len_t3, mkS, List.map_cons, List.map_nil, List.replicate, List.cons_append, List.nil_append, List.length_cons, List.length_nil, Nat.zero_add, Nat.reduceAdd, Nat.reduceBEq, Nat.beq, cond_true, cond_false, nth, setN, at?, oSub, oMul, oDiv, oMod, uNeg, oCmpI, oLt, oLe, oGt, oGe, subS, setAll, bInt, bDivmod, bAbs, bMax2, truM, isTys, isTy, Bool.or_false, Bool.false_or, Bool.true_or, Bool.or_true, Bool.and_true, Bool.true_and, Bool.and_false, Bool.false_and, Bool.not_true, Bool.not_false, eq_str, eq_int, ne_str, ne_int, nat_beq, Int.reduceEq, Int.reduceLT, Int.reduceLE, decide_true, decide_false, reduceCtorEq, z]
  · show (bif isNoDict m (.ref q) then _ else _) = _
    rw [show isNoDict m (.ref q) = true from by simp only [isNoDict, g]]
    rfl
  · have z : tab bodies (k + 1) 2 [.ref q, .int 12] m = .ok (.bl false) m := by
      rw [show tab bodies (k + 1) 2 = runB 2 0 (c_is_shaped (tab bodies k)) from rfl, x_run rfl]
      simp only [c_is_shaped, of_some, v_lit, v_var, v_nil, v_dct0, v_none, x_nil, x_cont, y_nm, y_nil, g_bin20, e_bin1, g_bin10, e_un1, g_un10, g_cons20, e_cons1, g_cons10, g_tup20, e_tup1, g_tup10, g_lst20, e_lst1, g_lst10, g_fun20, e_fun1, g_fun10, g_key20, e_key1, g_key10, e_ap1, g_ap10, e_pick, g_pick0, g_pick1, g_pick2, g_pick3, e_sif, e_and1, g_and10, g_and11, e_or1, g_or10, g_or11, e_not1, g_not, g_chain40, g_chain30, g_chain31, g_chain20, e_chain1, g_chain10, e_val1, g_val, e_tru1, g_tru10, e_tand, g_tand0, g_tand1, e_tor, g_tor0, g_tor1, e_tnot, g_tnot, g_isi2, e_isi1, g_isi10, g_sl30, g_sl20, e_sl1, g_sl10, e_part1, g_part10, g_meA0, e_me0, g_me00, g_meB0, e_me1, g_me10, e_seq1, g_seq10, g_seq11, g_seq12, e_ret1, g_ret10, e_expr1, g_expr10, g_asg20, e_asg1, g_asg10, g_par20, e_par1, g_par10, e_gtup, g_gtup0, e_gs1, g_gs10, g_sub20, e_sub1, g_sub10, g_run10, g_run11, add_ii, ixt0, ixt1, ixt2, len_t0, len_t1, len_t2, len_t3, mkS, List.map_cons, List.map_nil, List.replicate, List.cons_append, List.nil_append, List.length_cons, List.length_nil, Nat.zero_add, Nat.reduceAdd, Nat.reduceBEq, Nat.beq, cond_true, cond_false, nth, setN, at?, oSub, oMul, oDiv, oMod, uNeg, oCmpI, oLt, oLe, oGt, oGe, subS, setAll, bInt, bDivmod, bAbs, bMax2, truM, isTys, isTy, Bool.or_false, Bool.false_or, Bool.true_or, Bool.or_true, Bool.and_true, Bool.true_and, Bool.and_false, Bool.false_and, Bool.not_true, Bool.not_false, eq_str, eq_int, ne_str, ne_int, nat_beq, Int.reduceEq, Int.reduceLT, Int.reduceLE, decide_true, decide_false, reduceCtorEq, g]
    have z2 : tab bodies (k + 2) 4 [.ref q] m = .ok (.bl false) m := by
      rw [show tab bodies (k + 2) 4 = runB 1 0 (c_is_kind (tab bodies (k + 1))) from rfl, x_run rfl]
      simp only [c_is_kind, of_some, v_lit, v_var, v_nil, v_dct0, v_none, x_nil, x_cont, y_nm, y_nil, g_bin20, e_bin1, g_bin10, e_un1, g_un10, g_cons20, e_cons1, g_cons10, g_tup20, e_tup1, g_tup10, g_lst20, e_lst1, g_lst10, g_fun20, e_fun1, g_fun10, g_key20, e_key1, g_key10, e_ap1, g_ap10, e_pick, g_pick0, g_pick1, g_pick2, g_pick3, e_sif, e_and1, g_and10, g_and11, e_or1, g_or10, g_or11, e_not1, g_not, g_chain40, g_chain30, g_chain31, g_chain20, e_chain1, g_chain10, e_val1, g_val, e_tru1, g_tru10, e_tand, g_tand0, g_tand1, e_tor, g_tor0, g_tor1, e_tnot, g_tnot, g_isi2, e_isi1, g_isi10, g_sl30, g_sl20, e_sl1, g_sl10, e_part1, g_part10, g_meA0, e_me0, g_me00, g_meB0, e_me1, g_me10, e_seq1, g_seq10, g_seq11, g_seq12, e_ret1, g_ret10, e_expr1, g_expr10, g_asg20, e_asg1, g_asg10, g_par20, e_par1, g_par10, e_gtup, g_gtup0, e_gs1, g_gs10, g_sub20, e_sub1, g_sub10, g_run10, g_run11, add_ii, ixt0, ixt1, ixt2, len_t0, len_t1, len_t2, len_t3, mkS, List.map_cons, List.map_nil, List.replicate, List.cons_append, List.nil_append, List.length_cons, List.length_nil, Nat.zero_add, Nat.reduceAdd, Nat.reduceBEq, Nat.beq, cond_true, cond_false, nth, setN, at?, oSub, oMul, oDiv, oMod, uNeg, oCmpI, oLt, oLe, oGt, oGe, subS, setAll, bInt, bDivmod, bAbs, bMax2, truM, isTys, isTy, Bool.or_false, Bool.false_or, Bool.true_or, Bool.or_true, Bool.and_true, Bool.true_and, Bool.and_false, Bool.false_and, Bool.not_true, Bool.not_false, eq_str, eq_int, ne_str, ne_int, nat_beq, Int.reduceEq, Int.reduceLT, Int.reduceLE, decide_true, decide_false, reduceCtorEq, z]
    rw [show tab bodies (k + 3) 5 = runB 1 0 (c_is_a_kind (tab bodies (k + 2))) from rfl, x_run rfl]
    simp only [c_is_a_kind, of_some, v_lit, v_var, v_nil, v_dct0, v_none, x_nil, x_cont, y_nm, y_nil, g_bin20, e_bin1, g_bin10, e_un1, g_un10, g_cons20, e_cons1, g_cons10, g_tup20, e_tup1, g_tup10, g_lst20, e_lst1, g_lst10, g_fun20, e_fun1, g_fun10, g_key20, e_key1, g_key10, e_ap1, g_ap10, e_pick, g_pick0, g_pick1, g_pick2, g_pick3, e_sif, e_and1, g_and10, g_and11, e_or1, g_or10, g_or11, e_not1, g_not, g_chain40, g_chain30, g_chain31, g_chain20, e_chain1, g_chain10, e_val1, g_val, e_tru1, g_tru10, e_tand, g_tand0, g_tand1, e_tor, g_tor0, g_tor1, e_tnot, g_tnot, g_isi2, e_isi1, g_isi10, g_sl30, g_sl20, e_sl1, g_sl10, e_part1, g_part10, g_meA0, e_me0, g_me00, g_meB0, e_me1, g_me10, e_seq1, g_seq10, g_seq11, g_seq12, e_ret1, g_ret10, e_expr1, g_expr10, g_asg20, e_asg1, g_asg10, g_par20, e_par1, g_par10, e_gtup, g_gtup0, e_gs1, g_gs10, g_sub20, e_sub1, g_sub10, g_run10, g_run11, add_ii, ixt0, ixt1, ixt2, len_t0, len_t1, len_t2, len_t3, mkS, List.map_cons, List.map_nil, List.replicate, List.cons_append, List.nil_append, List.length_cons, List.length_nil, Nat.zero_add, Nat.reduceAdd, Nat.reduceBEq, Nat.beq, cond_true, cond_false, nth, setN, at?, oSub, oMul, oDiv, oMod, uNeg, oCmpI, oLt, oLe, oGt, oGe, subS, setAll, bInt, bDivmod, bAbs, bMax2, truM, isTys, isTy, Bool.or_false, Bool.false_or, Bool.true_or, Bool.or_true, Bool.and_true, Bool.true_and, Bool.and_false, Bool.false_and, Bool.not_true, Bool.not_false, eq_str, eq_int, ne_str, ne_int, nat_beq, Int.reduceEq, Int.reduceLT, Int.reduceLE, decide_true, decide_false, reduceCtorEq, z2]
end W_k11

set_option Elab.async false
set_option linter.all false
set_option maxRecDepth 100000
set_option maxHeartbeats 4000000
namespace W_k11
open PySem Mini
def bodyR (F : FT) : CS := (sSeq (sPar [5, 6] (aCons (cFun F 13 1 (aCons (cVar 4) aNil)) (aCons (cAp bRepr (aCons (cVar 4) aNil)) aNil))) (sIf (tOrC (tVal (cBin oNe (cAp bRepr (aCons (cLst (aCons (cFun F 5 1 (aCons (cVar 4) aNil)) (aCons (cFunK F 5 0 1 1 [(2, 0)] [] aNil (aCons (cVar 4) aNil)) aNil))) aNil)) (cAp bRepr (aCons (cLst (aCons (cVar 5) (aCons (cVar 5) aNil))) aNil)))) (tVal (cBin oNe (cAp bRepr (aCons (cVar 4) aNil)) (cVar 6)))) (sRet (cLit (.bl false))) sNil))
def itR : CI := (iSeqC (cBin oAdd (cVar 2) (cLst (aCons (cLit .non) (aCons (cLit (.int 0)) (aCons (cLit (.str ("" : Str))) (aCons (cLit (.str ("one" : Str))) (aCons (cTup aNil) (aCons (cLst aNil) (aCons cDct0 (aCons (cLit (.bl true)) (aCons (cTup (aCons (cLit (.str ("one" : Str))) aNil)) (aCons (cTup (aCons (cLit (.str ("letter" : Str))) (aCons (cLit (.int 5)) aNil))) (aCons (cTup (aCons (cLit (.str ("letter" : Str))) (aCons (cLit (.int 6)) aNil))) (aCons (cTup (aCons (cTup (aCons (cLit (.str ("one" : Str))) aNil)) aNil)) aNil)))))))))))))))
theorem mix_key {v : MV} : mix [] [] [v] [(2, 0)] = [v] := rfl
theorem body_ok {k : Nat} {m0 : M} {v : MV} (V : Val k m0 v) {m : M} (g : Grow m0 m) {s0 s1 s2 s3 s5 s6 s7 s8 : Option MV} : ∃ t5 t6 m2, bodyR (tab bodies k) [s0, s1, s2, s3, some v, s5, s6, s7, s8] m = .ok (.nx [s0, s1, s2, s3, some v, t5, t6, s7, s8]) m2 ∧ Grow m m2 := by
  obtain ⟨D, d, hd, H⟩ := V.ex
  obtain ⟨⟨m1, z1, g1⟩, _, _⟩ := H m g
  obtain ⟨_, z2, z3⟩ := H m1 (g.trans g1)
  have gA : Grow m1 (m1.new (.lst [.bl D, .bl D])) := .new
  have gB : Grow (m1.new (.lst [.bl D, .bl D])) ((m1.new (.lst [.bl D, .bl D])).new (.lst [.bl D, .bl D])) := .new
  have r1 := rep_two (a := m1.n + 1) (b := m1.n) (m := m1.new (.lst [.bl D, .bl D])) (p := D) (by omega) get_new_self
  have r2 := rep_two (a := m1.n) (b := m1.n + 1) (m := (m1.new (.lst [.bl D, .bl D])).new (.lst [.bl D, .bl D])) (p := D) (by omega) get_new_self
  obtain ⟨_, z4, _⟩ := H _ (g.trans (g1.trans (gA.trans gB)))
  have hl : datEq (.list [.bool D, .bool D]) (.list [.bool D, .bool D]) = true := by cases D <;> rfl
  refine ⟨some (.bl D), some (.rep d), (m1.new (.lst [.bl D, .bl D])).new (.lst [.bl D, .bl D]), ?_, g1.trans (gA.trans gB)⟩
  simp only [bodyR, of_some, v_lit, v_var, v_nil, v_dct0, v_none, x_nil, x_cont, y_nm, y_nil, g_bin20, e_bin1, g_bin10, e_un1, g_un10, g_cons20, e_cons1, g_cons10, g_tup20, e_tup1, g_tup10, g_lst20, e_lst1, g_lst10, g_fun20, e_fun1, g_fun10, g_key20, e_key1, g_key10, e_ap1, g_ap10, e_pick, g_pick0, g_pick1, g_pick2, g_pick3, e_sif, e_and1, g_and10, g_and11, e_or1, g_or10, g_or11, e_not1, g_not, g_chain40, g_chain30, g_chain31, g_chain20, e_chain1, g_chain10, e_val1, g_val, e_tru1, g_tru10, e_tand, g_tand0, g_tand1, e_tor, g_tor0, g_tor1, e_tnot, g_tnot, g_isi2, e_isi1, g_isi10, g_sl30, g_sl20, e_sl1, g_sl10, e_part1, g_part10, g_meA0, e_me0, g_me00, g_meB0, e_me1, g_me10, e_seq1, g_seq10, g_seq11, g_seq12, e_ret1, g_ret10, e_expr1, g_expr10, g_asg20, e_asg1, g_asg10, g_par20, e_par1, g_par10, e_gtup, g_gtup0, e_gs1, g_gs10, g_sub20, e_sub1, g_sub10, g_run10, g_run11, add_ii, ixt0, ixt1, ixt2, len_t0, len_t1, len_t2, len_t3, mkS, List.map_cons, List.map_nil, List.replicate, List.cons_append, List.nil_append, List.length_cons, List.length_nil, Nat.zero_add, Nat.reduceAdd, Nat.reduceBEq, Nat.beq, cond_true, cond_false, nth, setN, at?, oSub, oMul, oDiv, oMod, uNeg, oCmpI, oLt, oLe, oGt, oGe, subS, setAll, bInt, bDivmod, bAbs, bMax2, truM, isTys, isTy, Bool.or_false, Bool.false_or, Bool.true_or, Bool.or_true, Bool.and_true, Bool.true_and, Bool.and_false, Bool.false_and, Bool.not_true, Bool.not_false, eq_str, eq_int, ne_str, ne_int, nat_beq, Int.reduceEq, Int.reduceLT, Int.reduceLE, decide_true, decide_false, reduceCtorEq, z1, z2, z3, ft2, mix_key, add_new, r1, r2, ne_rep hl, z4, ne_rep hd]
theorem for_ok {k e : Nat} {m0 : M} {D : List MV} (g : m0.get e = some (.lst D)) (all : ∀ v ∈ D, Val k m0 v) {s0 s1 s2 s3 s4 s5 s6 s7 s8 : Option MV} :
    ∃ σ' m', forL (.live e D.length) (gNm 4) (bodyR (tab bodies k)) D.length 0 [s0, s1, s2, s3, s4, s5, s6, s7, s8] m0 = .ok (.nx σ') m' ∧ Grow m0 m' := by
  obtain ⟨σ', m', z, _, gr⟩ := for_any (J := .live e D.length) (g := gNm 4) (body := bodyR (tab bodies k)) (fun _ σ m => (∃ t4 t5 t6, σ = [s0, s1, s2, s3, t4, t5, t6, s7, s8]) ∧ Grow m0 m) D.length (fun i σ m hi ⟨⟨t4, t5, t6, e1⟩, gr⟩ => by
      subst e1
      have at_ : at? D i = some D[i] := by rw [at?_eq, List.getElem?_eq_getElem hi]
      obtain ⟨u5, u6, m2, z, g2⟩ := body_ok (all D[i] (List.getElem_mem hi)) gr (s0 := s0) (s1 := s1) (s2 := s2) (s3 := s3) (s5 := t5) (s6 := t6) (s7 := s7) (s8 := s8)
      exact ⟨D[i], [s0, s1, s2, s3, some D[i], t5, t6, s7, s8], m, _, m2, by simp only [It.at, gr.keep _ _ g, at_], rfl, z, ⟨_, _, _, rfl⟩, gr.trans g2⟩)
    (fun σ m ⟨_, gr⟩ => by simp only [It.fin, gr.keep _ _ g]; exact Nat.ble_eq.mpr (Nat.le_refl _)) D.length 0 [s0, s1, s2, s3, s4, s5, s6, s7, s8] m0 (by omega) ⟨⟨_, _, _, rfl⟩, .refl⟩
  exact ⟨σ', m', z, gr⟩
end W_k11

set_option Elab.async false
set_option linter.all false
set_option maxRecDepth 100000
set_option maxHeartbeats 4000000
namespace W_k11
open PySem Mini
def EP (a : Nat) (m m' : M) : Prop := Ext a m m' ∧ (Pot a m → Pot a m')
theorem way_ep {a : Nat} : Way (EP a) := by
  refine ⟨fun m => ⟨.refl, id⟩, fun h k => ⟨h.1.trans k.1, fun p => k.2 (h.2 p)⟩, fun {m m1 o o'} h => ⟨h.1.newPut, fun p => ?_⟩, ⟨.new, fun p => p.new⟩, fun h => h.1.le⟩
  obtain ⟨g, s, e, r⟩ := h.2 p.new
  have := p.lt
  have lt : m.n < m1.n := Nat.lt_of_lt_of_le (Nat.lt_succ_self _) h.1.le
  exact ⟨g, s, by rw [get_put_ne lt (by omega)]; exact e, r⟩
theorem nice_hole {a c : Nat} {m : M} {o : MO} {l : List MV} {w h : Nat} (g : m.get c = some .hole) (n : Nice a m l w h) : Nice a (m.put c o) l w h := n.elim fun ds z => ⟨ds, dts_hole g z.1, z.2⟩
theorem nice_old {a c : Nat} {m m' : M} {l : List MV} {w h : Nat} (x : Ext2 a c m m') (hc : m.n ≤ c) (n : Nice a m l w h) : Nice a m' l w h := n.elim fun ds z => ⟨ds, dts_old x hc z.1, z.2⟩
theorem all2_right {Q : MV → MV → Prop} {l ys : List MV} (h : All2 Q l ys) : ∀ y ∈ ys, ∃ v, Q v y := by
  induction h with
  | nil => intro y hy; cases hy
  | cons a _ ih =>
    intro y hy
    rcases List.mem_cons.mp hy with rfl | hy
    · exact ⟨_, a⟩
    · exact ih y hy
theorem filter_yes : ∀ l : List MV, l.filter (fun _ => true) = l
  | [] => rfl
  | v :: l => by rw [List.filter_cons_of_pos rfl, filter_yes l]
/-- the list of values under way -/
structure Sm (a c : Nat) (m2 m : M) (l : List MV) : Prop where
  pot : Pot a m
  at_ : m.get c = some (.lst l)
  ext : Ext2 a c m2 m
theorem sm_ext {a c b : Nat} {m2 m m' : M} {l ks : List MV} (S : Sm a c m2 m l) (x : EP a m m') (ne : c ≠ a) (g : m'.get b = some (.lst ks)) (h : l.length + ks.length ≤ 16777216) :
    isLst m (.ref c) = true ∧ mExtend (.ref c) (.ref b) m' = .ok .non (m'.put c (.lst (l ++ ks))) ∧ Sm a c m2 (m'.put c (.lst (l ++ ks))) (l ++ ks) := by
  have gc := x.1.keep c _ ne S.at_
  have lt := M.get_lt gc
  obtain ⟨q, s, e, r⟩ := x.2 S.pot
  exact ⟨isLst_of S.at_, ext_rr gc g h, ⟨⟨q, s, by rw [get_put_ne lt (Ne.symm ne)]; exact e, r⟩, get_put_self lt, S.ext.trans ((Ext2.of x.1).trans (.put lt))⟩⟩
theorem rows_ok {a : Nat} {m : M} {σ : S} {e : CE} {ci : CI} {l : List MV} (p : Pot a m) (hi : ci σ m = .ok (.vals l) m) (hl : l.length ≤ 100)
    (st : ∀ v ∈ l, ∀ m1, Pot a m1 → ∃ y m2, e (setN (some v) (wipeS σ [8]) 8) m1 = .ok y m2 ∧ Kn 14 y ∧ Pot a m2 ∧ Ext a m1 m2) :
    ∃ ys m2, cComp ci (gNm 8) tYesC e [8] σ m = .ok (.ref m.n) m2 ∧ m2.get m.n = some (.lst ys) ∧ EP a m m2 ∧ (∀ y ∈ ys, Kn 14 y) ∧ ys.length = l.length := by
  obtain ⟨ys, m2, e1, e2, e3, e4⟩ := comp_ev (P := EP a) (Q := fun _ _ y => Kn 14 y) way_ep (fun _ h => h) (i := 8) (t := tYesC) (e := e) (T := fun _ => true) (own := [8]) (ci := ci) (σ := σ) (m := m) (l := l) hi (by omega) (fun _ _ _ _ h _ => h) (fun v hv m1 g => by
    refine ⟨rfl, fun _ => ?_⟩
    obtain ⟨y, m2, z, ky, p2, x2⟩ := st v hv m1 (g.2 p.new)
    exact ⟨y, m2, z, ⟨x2, fun _ => p2⟩, ky⟩)
  rw [filter_yes] at e4
  exact ⟨ys, m2, e1, e2, e3, fun y hy => (all2_right e4 y hy).elim fun _ h => h, e4.len.symm⟩
theorem e_iseqL {c : CE} {σ : S} {m m' : M} {e : Nat} {D : List MV} (h : c σ m = .ok (.ref e) m') (g : m'.get e = some (.lst D)) : iSeqC c σ m = .ok (.live e D.length) m' := by
  unfold iSeqC; rw [h]
  show (match m'.get e with
    | some (.lst l) => Rs.ok (It.live e l.length) m'
    | some (.frz l) => Rs.ok (It.live e l.length) m'
    | _ => Rs.bad) = _
  rw [g]
theorem bents_ok {a : Nat} {m : M} {v : MV} (p : Pot a m) (kv : Kn 4 v) (k : Nat) (hk : 60 ≤ k) {s2 s3 s4 s5 s6 s7 s8 : Option MV} :
    ∃ ys m2, cComp (iRng1 (cLit (.int 20))) (gNm 7) tYesC (cFun (tab bodies k) 14 2 (aCons (cVar 0) (aCons (cVar 1) aNil))) [7] [some (.ref a), some v, s2, s3, s4, s5, s6, s7, s8] m = .ok (.ref m.n) m2 ∧ m2.get m.n = some (.lst ys) ∧ EP a m m2 ∧ (∀ y ∈ ys, Nice a m2 [y] 16000 9) ∧ ys.length = 20 := by
  have la := p.lt
  obtain ⟨ys, m2, e1, e2, e3, e4⟩ := comp_evJ (P := EP a) (Q := fun m _ y => Nice a m [y] 16000 9) way_ep (fun x n => n.mono x.1) (J := .rng 0 20) (i := 7) (t := tYesC) (e := cFun (tab bodies k) 14 2 (aCons (cVar 0) (aCons (cVar 1) aNil))) (T := fun _ => true) (own := [7])
    (ci := iRng1 (cLit (.int 20))) (σ := [some (.ref a), some v, s2, s3, s4, s5, s6, s7, s8]) (m := m) (l := (List.range 20).map fun i : Nat => MV.int (0 + (i : Int))) rfl rfl
    (fun j m v h => by
      rw [at?_eq, List.getElem?_map] at h
      by_cases q : j < 20
      · rw [List.getElem?_range q] at h; exact h
      · rw [List.getElem?_eq_none (by rw [List.length_range]; omega)] at h; cases h) (fun _ _ => rfl) (by simp)
    (fun m2 v y x n => nice_hole (x.1.keep _ _ (by omega) get_new_self) n) (fun u hu m1 g => by
      refine ⟨rfl, fun _ => ?_⟩
      obtain ⟨y, m2, z, n, p2, x2⟩ := bent_ok kv (g.2 p.new) k (by omega)
      exact ⟨y, m2, by simp only [of_some, v_lit, v_var, v_nil, v_dct0, v_none, x_nil, x_cont, y_nm, y_nil, g_bin20, e_bin1, g_bin10, e_un1, g_un10, g_cons20, e_cons1, g_cons10, g_tup20, e_tup1, g_tup10, g_lst20, e_lst1, g_lst10, g_fun20, e_fun1, g_fun10, g_key20, e_key1, g_key10, e_ap1, g_ap10, e_pick, g_pick0, g_pick1, g_pick2, g_pick3, e_sif, e_and1, g_and10, g_and11, e_or1, g_or10, g_or11, e_not1, g_not, g_chain40, g_chain30, g_chain31, g_chain20, e_chain1, g_chain10, e_val1, g_val, e_tru1, g_tru10, e_tand, g_tand0, g_tand1, e_tor, g_tor0, g_tor1, e_tnot, g_tnot, g_isi2, e_isi1, g_isi10, g_sl30, g_sl20, e_sl1, g_sl10, e_part1, g_part10, g_meA0, e_me0, g_me00, g_meB0, e_me1, g_me10, e_seq1, g_seq10, g_seq11, g_seq12, e_ret1, g_ret10, e_expr1, g_expr10, g_asg20, e_asg1, g_asg10, g_par20, e_par1, g_par10, e_gtup, g_gtup0, e_gs1, g_gs10, g_sub20, e_sub1, g_sub10, g_run10, g_run11, add_ii, ixt0, ixt1, ixt2, len_t0, len_t1, len_t2, len_t3, mkS, List.map_cons, List.map_nil, List.replicate, List.cons_append, List.nil_append, List.length_cons, List.length_nil, Nat.zero_add, Nat.reduceAdd, Nat.reduceBEq, Nat.beq, cond_true, cond_false, nth, setN, at?, oSub, oMul, oDiv, oMod, uNeg, oCmpI, oLt, oLe, oGt, oGe, subS, setAll, bInt, bDivmod, bAbs, bMax2, truM, isTys, isTy, Bool.or_false, Bool.false_or, Bool.true_or, Bool.or_true, Bool.and_true, Bool.true_and, Bool.and_false, Bool.false_and, Bool.not_true, Bool.not_false, eq_str, eq_int, ne_str, ne_int, nat_beq, Int.reduceEq, Int.reduceLT, Int.reduceLE, decide_true, decide_false, reduceCtorEq, wipeS, z], ⟨x2, fun _ => p2⟩, n⟩)
  rw [filter_yes] at e4
  refine ⟨ys, m2, e1, e2, e3, fun y hy => (all2_right e4 y hy).elim fun _ h => h, ?_⟩
  rw [← e4.len]; simp
end W_k11

set_option Elab.async false
set_option linter.all false
set_option maxRecDepth 100000
set_option maxHeartbeats 4000000
namespace W_k11
open PySem Mini
theorem ft12 : fits 12 = true := rfl
theorem right_ok {a : Nat} {m : M} (p : Pot a m) (k : Nat) (hk : 80 ≤ k) : ∃ m', tab bodies (k + 1) 17 [.ref a] m = .ok (.bl true) m' ∧ Ext a m m' := by
  -- the kind
  obtain ⟨v, m1, z1, kv, p1, x1⟩ := kind_ok 4 p k (by omega)
  have z1 : tab bodies k 9 [.ref a, .int 6, .int 5] m = .ok v m1 := z1
  have t0 : (sAsg (cFun (tab bodies k) 9 3 (aCons (cVar 0) (aCons (cLit (.int 6)) (aCons (cLit (.int 5)) aNil)))) (gNm 1)) [some (.ref a), none, none, none, none, none, none, none, none] m = .ok (.nx [some (.ref a), some v, none, none, none, none, none, none, none]) m1 := by simp only [of_some, v_lit, v_var, v_nil, v_dct0, v_none, x_nil, x_cont, y_nm, y_nil, g_bin20, e_bin1, g_bin10, e_un1, g_un10, g_cons20, e_cons1, g_cons10, g_tup20, e_tup1, g_tup10, g_lst20, e_lst1, g_lst10, g_fun20, e_fun1, g_fun10, g_key20, e_key1, g_key10, e_ap1, g_ap10, e_pick, g_pick0, g_pick1, g_pick2, g_pick3, e_sif, e_and1, g_and10, g_and11, e_or1, g_or10, g_or11, e_not1, g_not, g_chain40, g_chain30, g_chain31, g_chain20, e_chain1, g_chain10, e_val1, g_val, e_tru1, g_tru10, e_tand, g_tand0, g_tand1, e_tor, g_tor0, g_tor1, e_tnot, g_tnot, g_isi2, e_isi1, g_isi10, g_sl30, g_sl20, e_sl1, g_sl10, e_part1, g_part10, g_meA0, e_me0, g_me00, g_meB0, e_me1, g_me10, e_seq1, g_seq10, g_seq11, g_seq12, e_ret1, g_ret10, e_expr1, g_expr10, g_asg20, e_asg1, g_asg10, g_par20, e_par1, g_par10, e_gtup, g_gtup0, e_gs1, g_gs10, g_sub20, e_sub1, g_sub10, g_run10, g_run11, add_ii, ixt0, ixt1, ixt2, len_t0, len_t1, len_t2, len_t3, mkS, List.map_cons, List.map_nil, List.replicate, List.cons_append, List.nil_append, List.length_cons, List.length_nil, Nat.zero_add, Nat.reduceAdd, Nat.reduceBEq, Nat.beq, cond_true, cond_false, nth, setN, at?, oSub, oMul, oDiv, oMod, uNeg, oCmpI, oLt, oLe, oGt, oGe, subS, setAll, bInt, bDivmod, bAbs, bMax2, truM, isTys, isTy, Bool.or_false, Bool.false_or, Bool.true_or, Bool.or_true, Bool.and_true, Bool.true_and, Bool.and_false, Bool.false_and, Bool.not_true, Bool.not_false, eq_str, eq_int, ne_str, ne_int, nat_beq, Int.reduceEq, Int.reduceLT, Int.reduceLE, decide_true, decide_false, reduceCtorEq, z1]
  -- its kin
  obtain ⟨ys, m2, e1, e2, e3, e4, e5⟩ := bents_ok (p1.new (o := .lst [v])) kv k (by omega) (s2 := none) (s3 := none) (s4 := none) (s5 := none) (s6 := none) (s7 := none) (s8 := none)
  have la := p1.lt
  have n1 : (m1.new (.lst [v])).n = m1.n + 1 := rfl
  have gv : m2.get m1.n = some (.lst [v]) := e3.1.keep _ _ (by omega) get_new_self
  have pl := add_rr gv e2 (by rw [e5]; show 21 ≤ 16777216; decide)
  have l2 : m1.n + 1 ≤ m2.n := e3.1.le
  obtain ⟨l0, hl0⟩ : ∃ l0 : List MV, l0 = [v] ++ ys := ⟨_, rfl⟩
  rw [← hl0] at pl
  have t1 : (sAsg (cBin oAdd (cLst (aCons (cVar 1) aNil)) (cComp (iRng1 (cLit (.int 20))) (gNm 7) tYesC (cFun (tab bodies k) 14 2 (aCons (cVar 0) (aCons (cVar 1) aNil))) [7])) (gNm 2)) [some (.ref a), some v, none, none, none, none, none, none, none] m1 = .ok (.nx [some (.ref a), some v, some (.ref m2.n), none, none, none, none, none, none]) (m2.new (.lst l0)) := by
    simp only [of_some, v_lit, v_var, v_nil, v_dct0, v_none, x_nil, x_cont, y_nm, y_nil, g_bin20, e_bin1, g_bin10, e_un1, g_un10, g_cons20, e_cons1, g_cons10, g_tup20, e_tup1, g_tup10, g_lst20, e_lst1, g_lst10, g_fun20, e_fun1, g_fun10, g_key20, e_key1, g_key10, e_ap1, g_ap10, e_pick, g_pick0, g_pick1, g_pick2, g_pick3, e_sif, e_and1, g_and10, g_and11, e_or1, g_or10, g_or11, e_not1, g_not, g_chain40, g_chain30, g_chain31, g_chain20, e_chain1, g_chain10, e_val1, g_val, e_tru1, g_tru10, e_tand, g_tand0, g_tand1, e_tor, g_tor0, g_tor1, e_tnot, g_tnot, g_isi2, e_isi1, g_isi10, g_sl30, g_sl20, e_sl1, g_sl10, e_part1, g_part10, g_meA0, e_me0, g_me00, g_meB0, e_me1, g_me10, e_seq1, g_seq10, g_seq11, g_seq12, e_ret1, g_ret10, e_expr1, g_expr10, g_asg20, e_asg1, g_asg10, g_par20, e_par1, g_par10, e_gtup, g_gtup0, e_gs1, g_gs10, g_sub20, e_sub1, g_sub10, g_run10, g_run11, add_ii, ixt0, ixt1, ixt2, len_t0, len_t1, len_t2, len_t3, mkS, List.map_cons, List.map_nil, List.replicate, List.cons_append, List.nil_append, List.length_cons, List.length_nil, Nat.zero_add, Nat.reduceAdd, Nat.reduceBEq, Nat.beq, cond_true, cond_false, nth, setN, at?, oSub, oMul, oDiv, oMod, uNeg, oCmpI, oLt, oLe, oGt, oGe, subS, setAll, bInt, bDivmod, bAbs, bMax2, truM, isTys, isTy, Bool.or_false, Bool.false_or, Bool.true_or, Bool.or_true, Bool.and_true, Bool.true_and, Bool.and_false, Bool.false_and, Bool.not_true, Bool.not_false, eq_str, eq_int, ne_str, ne_int, nat_beq, Int.reduceEq, Int.reduceLT, Int.reduceLE, decide_true, decide_false, reduceCtorEq, ft1, e1, pl]
  have p2 : Pot a m2 := e3.2 p1.new
  have ca : m2.n ≠ a := by have := p2.lt; omega
  have S0 : Sm a m2.n m2 (m2.new (.lst l0)) l0 := ⟨p2.new, get_new_self, .of .new⟩
  have len0 : l0.length = 21 := by rw [hl0, List.length_append, e5]; rfl
  have nice0 : ∀ y ∈ l0, Nice a m2 [y] 16000 9 := fun y hy => by
    rw [hl0] at hy
    rcases List.mem_append.mp hy with h | h
    · rw [List.mem_singleton.mp h]; exact kv.nice.le (by decide) (by decide)
    · exact e4 y h
  -- rows
  obtain ⟨r1, m4, f1, f2, f3, f4, f5⟩ := rows_ok (ci := iSeqC (cTup (aCons (cLit (.int 10)) (aCons (cLit (.int 11)) (aCons (cLit (.int 12)) (aCons (cLit (.int 13)) aNil)))))) (σ := [some (.ref a), some v, some (.ref m2.n), none, none, none, none, none, none]) (m := m2.new (.lst l0))
    (e := cFun (tab bodies k) 16 3 (aCons (cVar 0) (aCons (cVar 8) (aCons (cTup (aCons (cLit (.str ("letter" : Str))) (aCons (cLit (.int 5)) aNil))) aNil)))) (l := [.int 10, .int 11, .int 12, .int 13]) S0.pot (e_iseqT (by simp only [of_some, v_lit, v_var, v_nil, v_dct0, v_none, x_nil, x_cont, y_nm, y_nil, g_bin20, e_bin1, g_bin10, e_un1, g_un10, g_cons20, e_cons1, g_cons10, g_tup20, e_tup1, g_tup10, g_lst20, e_lst1, g_lst10, g_fun20, e_fun1, g_fun10, g_key20, e_key1, g_key10, e_ap1, g_ap10, e_pick, g_pick0, g_pick1, g_pick2, g_pick3, e_sif, e_and1, g_and10, g_and11, e_or1, g_or10, g_or11, e_not1, g_not, g_chain40, g_chain30, g_chain31, g_chain20, e_chain1, g_chain10, e_val1, g_val, e_tru1, g_tru10, e_tand, g_tand0, g_tand1, e_tor, g_tor0, g_tor1, e_tnot, g_tnot, g_isi2, e_isi1, g_isi10, g_sl30, g_sl20, e_sl1, g_sl10, e_part1, g_part10, g_meA0, e_me0, g_me00, g_meB0, e_me1, g_me10, e_seq1, g_seq10, g_seq11, g_seq12, e_ret1, g_ret10, e_expr1, g_expr10, g_asg20, e_asg1, g_asg10, g_par20, e_par1, g_par10, e_gtup, g_gtup0, e_gs1, g_gs10, g_sub20, e_sub1, g_sub10, g_run10, g_run11, add_ii, ixt0, ixt1, ixt2, len_t0, len_t1, len_t2, len_t3, mkS, List.map_cons, List.map_nil, List.replicate, List.cons_append, List.nil_append, List.length_cons, List.length_nil, Nat.zero_add, Nat.reduceAdd, Nat.reduceBEq, Nat.beq, cond_true, cond_false, nth, setN, at?, oSub, oMul, oDiv, oMod, uNeg, oCmpI, oLt, oLe, oGt, oGe, subS, setAll, bInt, bDivmod, bAbs, bMax2, truM, isTys, isTy, Bool.or_false, Bool.false_or, Bool.true_or, Bool.or_true, Bool.and_true, Bool.true_and, Bool.and_false, Bool.false_and, Bool.not_true, Bool.not_false, eq_str, eq_int, ne_str, ne_int, nat_beq, Int.reduceEq, Int.reduceLT, Int.reduceLE, decide_true, decide_false, reduceCtorEq, ft4])) (by decide) (fun u hu m1 p => by
      have key : ∀ n : Nat, n ≤ 14 → u = .int (n : Int) → ∃ y m2, cFun (tab bodies k) 16 3 (aCons (cVar 0) (aCons (cVar 8) (aCons (cTup (aCons (cLit (.str ("letter" : Str))) (aCons (cLit (.int 5)) aNil))) aNil))) (setN (some u) (wipeS [some (.ref a), some v, some (.ref m2.n), none, none, none, none, none, none] [8]) 8) m1 = .ok y m2 ∧ Kn 14 y ∧ Pot a m2 ∧ Ext a m1 m2 := fun n hn e => by
        obtain ⟨y, m2, z, ky, p2, x2⟩ := row_ok (part := .tup [.str "letter", .int 5]) (d := 0) (n := n) p (.let_ (by decide) (by decide)) (by omega) k (by omega)
        exact ⟨y, m2, by rw [e]; simp only [of_some, v_lit, v_var, v_nil, v_dct0, v_none, x_nil, x_cont, y_nm, y_nil, g_bin20, e_bin1, g_bin10, e_un1, g_un10, g_cons20, e_cons1, g_cons10, g_tup20, e_tup1, g_tup10, g_lst20, e_lst1, g_lst10, g_fun20, e_fun1, g_fun10, g_key20, e_key1, g_key10, e_ap1, g_ap10, e_pick, g_pick0, g_pick1, g_pick2, g_pick3, e_sif, e_and1, g_and10, g_and11, e_or1, g_or10, g_or11, e_not1, g_not, g_chain40, g_chain30, g_chain31, g_chain20, e_chain1, g_chain10, e_val1, g_val, e_tru1, g_tru10, e_tand, g_tand0, g_tand1, e_tor, g_tor0, g_tor1, e_tnot, g_tnot, g_isi2, e_isi1, g_isi10, g_sl30, g_sl20, e_sl1, g_sl10, e_part1, g_part10, g_meA0, e_me0, g_me00, g_meB0, e_me1, g_me10, e_seq1, g_seq10, g_seq11, g_seq12, e_ret1, g_ret10, e_expr1, g_expr10, g_asg20, e_asg1, g_asg10, g_par20, e_par1, g_par10, e_gtup, g_gtup0, e_gs1, g_gs10, g_sub20, e_sub1, g_sub10, g_run10, g_run11, add_ii, ixt0, ixt1, ixt2, len_t0, len_t1, len_t2, len_t3, mkS, List.map_cons, List.map_nil, List.replicate, List.cons_append, List.nil_append, List.length_cons, List.length_nil, Nat.zero_add, Nat.reduceAdd, Nat.reduceBEq, Nat.beq, cond_true, cond_false, nth, setN, at?, oSub, oMul, oDiv, oMod, uNeg, oCmpI, oLt, oLe, oGt, oGe, subS, setAll, bInt, bDivmod, bAbs, bMax2, truM, isTys, isTy, Bool.or_false, Bool.false_or, Bool.true_or, Bool.or_true, Bool.and_true, Bool.true_and, Bool.and_false, Bool.false_and, Bool.not_true, Bool.not_false, eq_str, eq_int, ne_str, ne_int, nat_beq, Int.reduceEq, Int.reduceLT, Int.reduceLE, decide_true, decide_false, reduceCtorEq, wipeS, ft2, z], ky.up _ (by omega), p2, x2⟩
      rcases List.mem_cons.mp hu with h | hu
      · exact key 10 (by decide) h
      rcases List.mem_cons.mp hu with h | hu
      · exact key 11 (by decide) h
      rcases List.mem_cons.mp hu with h | hu
      · exact key 12 (by decide) h
      · exact key 13 (by decide) (List.mem_singleton.mp hu))
  obtain ⟨i1, q1, S1⟩ := sm_ext S0 f3 ca f2 (by rw [len0, f5]; decide)
  have t2 : (sExpr (cMe1 mExtend (cVar 2) (cComp (iSeqC (cTup (aCons (cLit (.int 10)) (aCons (cLit (.int 11)) (aCons (cLit (.int 12)) (aCons (cLit (.int 13)) aNil)))))) (gNm 8) tYesC (cFun (tab bodies k) 16 3 (aCons (cVar 0) (aCons (cVar 8) (aCons (cTup (aCons (cLit (.str ("letter" : Str))) (aCons (cLit (.int 5)) aNil))) aNil)))) [8]))) [some (.ref a), some v, some (.ref m2.n), none, none, none, none, none, none] (m2.new (.lst l0)) = .ok (.nx [some (.ref a), some v, some (.ref m2.n), none, none, none, none, none, none]) (m4.put m2.n (.lst (l0 ++ r1))) := by
    simp only [of_some, v_lit, v_var, v_nil, v_dct0, v_none, x_nil, x_cont, y_nm, y_nil, g_bin20, e_bin1, g_bin10, e_un1, g_un10, g_cons20, e_cons1, g_cons10, g_tup20, e_tup1, g_tup10, g_lst20, e_lst1, g_lst10, g_fun20, e_fun1, g_fun10, g_key20, e_key1, g_key10, e_ap1, g_ap10, e_pick, g_pick0, g_pick1, g_pick2, g_pick3, e_sif, e_and1, g_and10, g_and11, e_or1, g_or10, g_or11, e_not1, g_not, g_chain40, g_chain30, g_chain31, g_chain20, e_chain1, g_chain10, e_val1, g_val, e_tru1, g_tru10, e_tand, g_tand0, g_tand1, e_tor, g_tor0, g_tor1, e_tnot, g_tnot, g_isi2, e_isi1, g_isi10, g_sl30, g_sl20, e_sl1, g_sl10, e_part1, g_part10, g_meA0, e_me0, g_me00, g_meB0, e_me1, g_me10, e_seq1, g_seq10, g_seq11, g_seq12, e_ret1, g_ret10, e_expr1, g_expr10, g_asg20, e_asg1, g_asg10, g_par20, e_par1, g_par10, e_gtup, g_gtup0, e_gs1, g_gs10, g_sub20, e_sub1, g_sub10, g_run10, g_run11, add_ii, ixt0, ixt1, ixt2, len_t0, len_t1, len_t2, len_t3, mkS, List.map_cons, List.map_nil, List.replicate, List.cons_append, List.nil_append, List.length_cons, List.length_nil, Nat.zero_add, Nat.reduceAdd, Nat.reduceBEq, Nat.beq, cond_true, cond_false, nth, setN, at?, oSub, oMul, oDiv, oMod, uNeg, oCmpI, oLt, oLe, oGt, oGe, subS, setAll, bInt, bDivmod, bAbs, bMax2, truM, isTys, isTy, Bool.or_false, Bool.false_or, Bool.true_or, Bool.or_true, Bool.and_true, Bool.true_and, Bool.and_false, Bool.false_and, Bool.not_true, Bool.not_false, eq_str, eq_int, ne_str, ne_int, nat_beq, Int.reduceEq, Int.reduceLT, Int.reduceLE, decide_true, decide_false, reduceCtorEq, i1, f1, q1]
  obtain ⟨r2, m6, g1, g2, g3, g4, g5⟩ := rows_ok (ci := iSeqC (cTup (aCons (cLit (.int 6)) (aCons (cLit (.int 7)) (aCons (cLit (.int 8)) aNil))))) (σ := [some (.ref a), some v, some (.ref m2.n), none, none, none, none, none, none]) (m := m4.put m2.n (.lst (l0 ++ r1)))
    (e := cFun (tab bodies k) 16 3 (aCons (cVar 0) (aCons (cVar 8) (aCons (cFun (tab bodies k) 15 1 (aCons (cLit (.int 3)) aNil)) aNil)))) (l := [.int 6, .int 7, .int 8]) S1.pot (e_iseqT (by simp only [of_some, v_lit, v_var, v_nil, v_dct0, v_none, x_nil, x_cont, y_nm, y_nil, g_bin20, e_bin1, g_bin10, e_un1, g_un10, g_cons20, e_cons1, g_cons10, g_tup20, e_tup1, g_tup10, g_lst20, e_lst1, g_lst10, g_fun20, e_fun1, g_fun10, g_key20, e_key1, g_key10, e_ap1, g_ap10, e_pick, g_pick0, g_pick1, g_pick2, g_pick3, e_sif, e_and1, g_and10, g_and11, e_or1, g_or10, g_or11, e_not1, g_not, g_chain40, g_chain30, g_chain31, g_chain20, e_chain1, g_chain10, e_val1, g_val, e_tru1, g_tru10, e_tand, g_tand0, g_tand1, e_tor, g_tor0, g_tor1, e_tnot, g_tnot, g_isi2, e_isi1, g_isi10, g_sl30, g_sl20, e_sl1, g_sl10, e_part1, g_part10, g_meA0, e_me0, g_me00, g_meB0, e_me1, g_me10, e_seq1, g_seq10, g_seq11, g_seq12, e_ret1, g_ret10, e_expr1, g_expr10, g_asg20, e_asg1, g_asg10, g_par20, e_par1, g_par10, e_gtup, g_gtup0, e_gs1, g_gs10, g_sub20, e_sub1, g_sub10, g_run10, g_run11, add_ii, ixt0, ixt1, ixt2, len_t0, len_t1, len_t2, len_t3, mkS, List.map_cons, List.map_nil, List.replicate, List.cons_append, List.nil_append, List.length_cons, List.length_nil, Nat.zero_add, Nat.reduceAdd, Nat.reduceBEq, Nat.beq, cond_true, cond_false, nth, setN, at?, oSub, oMul, oDiv, oMod, uNeg, oCmpI, oLt, oLe, oGt, oGe, subS, setAll, bInt, bDivmod, bAbs, bMax2, truM, isTys, isTy, Bool.or_false, Bool.false_or, Bool.true_or, Bool.or_true, Bool.and_true, Bool.true_and, Bool.and_false, Bool.false_and, Bool.not_true, Bool.not_false, eq_str, eq_int, ne_str, ne_int, nat_beq, Int.reduceEq, Int.reduceLT, Int.reduceLE, decide_true, decide_false, reduceCtorEq, ft3])) (by decide) (fun u hu m1 p => by
      have key : ∀ n : Nat, n ≤ 10 → u = .int (n : Int) → ∃ y m2, cFun (tab bodies k) 16 3 (aCons (cVar 0) (aCons (cVar 8) (aCons (cFun (tab bodies k) 15 1 (aCons (cLit (.int 3)) aNil)) aNil))) (setN (some u) (wipeS [some (.ref a), some v, some (.ref m2.n), none, none, none, none, none, none] [8]) 8) m1 = .ok y m2 ∧ Kn 14 y ∧ Pot a m2 ∧ Ext a m1 m2 := fun n hn e => by
        obtain ⟨f, zf, kf⟩ := full_ok 2 (m := m1) k (by omega)
        have zf : tab bodies k 15 [.int 3] m1 = .ok f m1 := zf
        obtain ⟨y, m2, z, ky, p2, x2⟩ := row_ok (part := f) (d := 2) (n := n) p kf (by omega) k (by omega)
        exact ⟨y, m2, by rw [e]; simp only [of_some, v_lit, v_var, v_nil, v_dct0, v_none, x_nil, x_cont, y_nm, y_nil, g_bin20, e_bin1, g_bin10, e_un1, g_un10, g_cons20, e_cons1, g_cons10, g_tup20, e_tup1, g_tup10, g_lst20, e_lst1, g_lst10, g_fun20, e_fun1, g_fun10, g_key20, e_key1, g_key10, e_ap1, g_ap10, e_pick, g_pick0, g_pick1, g_pick2, g_pick3, e_sif, e_and1, g_and10, g_and11, e_or1, g_or10, g_or11, e_not1, g_not, g_chain40, g_chain30, g_chain31, g_chain20, e_chain1, g_chain10, e_val1, g_val, e_tru1, g_tru10, e_tand, g_tand0, g_tand1, e_tor, g_tor0, g_tor1, e_tnot, g_tnot, g_isi2, e_isi1, g_isi10, g_sl30, g_sl20, e_sl1, g_sl10, e_part1, g_part10, g_meA0, e_me0, g_me00, g_meB0, e_me1, g_me10, e_seq1, g_seq10, g_seq11, g_seq12, e_ret1, g_ret10, e_expr1, g_expr10, g_asg20, e_asg1, g_asg10, g_par20, e_par1, g_par10, e_gtup, g_gtup0, e_gs1, g_gs10, g_sub20, e_sub1, g_sub10, g_run10, g_run11, add_ii, ixt0, ixt1, ixt2, len_t0, len_t1, len_t2, len_t3, mkS, List.map_cons, List.map_nil, List.replicate, List.cons_append, List.nil_append, List.length_cons, List.length_nil, Nat.zero_add, Nat.reduceAdd, Nat.reduceBEq, Nat.beq, cond_true, cond_false, nth, setN, at?, oSub, oMul, oDiv, oMod, uNeg, oCmpI, oLt, oLe, oGt, oGe, subS, setAll, bInt, bDivmod, bAbs, bMax2, truM, isTys, isTy, Bool.or_false, Bool.false_or, Bool.true_or, Bool.or_true, Bool.and_true, Bool.true_and, Bool.and_false, Bool.false_and, Bool.not_true, Bool.not_false, eq_str, eq_int, ne_str, ne_int, nat_beq, Int.reduceEq, Int.reduceLT, Int.reduceLE, decide_true, decide_false, reduceCtorEq, wipeS, zf, z], ky.up _ (by omega), p2, x2⟩
      rcases List.mem_cons.mp hu with h | hu
      · exact key 6 (by decide) h
      rcases List.mem_cons.mp hu with h | hu
      · exact key 7 (by decide) h
      · exact key 8 (by decide) (List.mem_singleton.mp hu))
  obtain ⟨i2, q2, S2⟩ := sm_ext S1 g3 ca g2 (by rw [List.length_append, len0, f5, g5]; decide)
  have t3 : (sExpr (cMe1 mExtend (cVar 2) (cComp (iSeqC (cTup (aCons (cLit (.int 6)) (aCons (cLit (.int 7)) (aCons (cLit (.int 8)) aNil))))) (gNm 8) tYesC (cFun (tab bodies k) 16 3 (aCons (cVar 0) (aCons (cVar 8) (aCons (cFun (tab bodies k) 15 1 (aCons (cLit (.int 3)) aNil)) aNil)))) [8]))) [some (.ref a), some v, some (.ref m2.n), none, none, none, none, none, none] (m4.put m2.n (.lst (l0 ++ r1))) = .ok (.nx [some (.ref a), some v, some (.ref m2.n), none, none, none, none, none, none]) (m6.put m2.n (.lst (l0 ++ r1 ++ r2))) := by
    simp only [of_some, v_lit, v_var, v_nil, v_dct0, v_none, x_nil, x_cont, y_nm, y_nil, g_bin20, e_bin1, g_bin10, e_un1, g_un10, g_cons20, e_cons1, g_cons10, g_tup20, e_tup1, g_tup10, g_lst20, e_lst1, g_lst10, g_fun20, e_fun1, g_fun10, g_key20, e_key1, g_key10, e_ap1, g_ap10, e_pick, g_pick0, g_pick1, g_pick2, g_pick3, e_sif, e_and1, g_and10, g_and11, e_or1, g_or10, g_or11, e_not1, g_not, g_chain40, g_chain30, g_chain31, g_chain20, e_chain1, g_chain10, e_val1, g_val, e_tru1, g_tru10, e_tand, g_tand0, g_tand1, e_tor, g_tor0, g_tor1, e_tnot, g_tnot, g_isi2, e_isi1, g_isi10, g_sl30, g_sl20, e_sl1, g_sl10, e_part1, g_part10, g_meA0, e_me0, g_me00, g_meB0, e_me1, g_me10, e_seq1, g_seq10, g_seq11, g_seq12, e_ret1, g_ret10, e_expr1, g_expr10, g_asg20, e_asg1, g_asg10, g_par20, e_par1, g_par10, e_gtup, g_gtup0, e_gs1, g_gs10, g_sub20, e_sub1, g_sub10, g_run10, g_run11, add_ii, ixt0, ixt1, ixt2, len_t0, len_t1, len_t2, len_t3, mkS, List.map_cons, List.map_nil, List.replicate, List.cons_append, List.nil_append, List.length_cons, List.length_nil, Nat.zero_add, Nat.reduceAdd, Nat.reduceBEq, Nat.beq, cond_true, cond_false, nth, setN, at?, oSub, oMul, oDiv, oMod, uNeg, oCmpI, oLt, oLe, oGt, oGe, subS, setAll, bInt, bDivmod, bAbs, bMax2, truM, isTys, isTy, Bool.or_false, Bool.false_or, Bool.true_or, Bool.or_true, Bool.and_true, Bool.true_and, Bool.and_false, Bool.false_and, Bool.not_true, Bool.not_false, eq_str, eq_int, ne_str, ne_int, nat_beq, Int.reduceEq, Int.reduceLT, Int.reduceLE, decide_true, decide_false, reduceCtorEq, i2, g1, q2]
  obtain ⟨m7, hm7⟩ : ∃ x, x = m6.put m2.n (.lst (l0 ++ r1 ++ r2)) := ⟨_, rfl⟩
  rw [← hm7] at t3 S2
  -- wide
  obtain ⟨w5, y5, k5⟩ := full_ok 4 (m := m7) k (by omega)
  obtain ⟨w4, y4, k4⟩ := full_ok 3 (m := m7) k (by omega)
  have y5 : tab bodies k 15 [.int 5] m7 = .ok w5 m7 := y5
  have y4 : tab bodies k 15 [.int 4] m7 = .ok w4 m7 := y4
  obtain ⟨wd, hwd⟩ : ∃ x : MV, x = .tup [.str "fun", w5, w4] := ⟨_, rfl⟩
  have kwd : Kn 5 wd := by rw [hwd]; exact .two (.inl rfl) k5 (k4.up _ (by decide))
  have t4 : (sAsg (cTup (aCons (cLit (.str ("fun" : Str))) (aCons (cFun (tab bodies k) 15 1 (aCons (cLit (.int 5)) aNil)) (aCons (cFun (tab bodies k) 15 1 (aCons (cLit (.int 4)) aNil)) aNil)))) (gNm 3)) [some (.ref a), some v, some (.ref m2.n), none, none, none, none, none, none] m7 = .ok (.nx [some (.ref a), some v, some (.ref m2.n), some wd, none, none, none, none, none]) m7 := by
    simp only [of_some, v_lit, v_var, v_nil, v_dct0, v_none, x_nil, x_cont, y_nm, y_nil, g_bin20, e_bin1, g_bin10, e_un1, g_un10, g_cons20, e_cons1, g_cons10, g_tup20, e_tup1, g_tup10, g_lst20, e_lst1, g_lst10, g_fun20, e_fun1, g_fun10, g_key20, e_key1, g_key10, e_ap1, g_ap10, e_pick, g_pick0, g_pick1, g_pick2, g_pick3, e_sif, e_and1, g_and10, g_and11, e_or1, g_or10, g_or11, e_not1, g_not, g_chain40, g_chain30, g_chain31, g_chain20, e_chain1, g_chain10, e_val1, g_val, e_tru1, g_tru10, e_tand, g_tand0, g_tand1, e_tor, g_tor0, g_tor1, e_tnot, g_tnot, g_isi2, e_isi1, g_isi10, g_sl30, g_sl20, e_sl1, g_sl10, e_part1, g_part10, g_meA0, e_me0, g_me00, g_meB0, e_me1, g_me10, e_seq1, g_seq10, g_seq11, g_seq12, e_ret1, g_ret10, e_expr1, g_expr10, g_asg20, e_asg1, g_asg10, g_par20, e_par1, g_par10, e_gtup, g_gtup0, e_gs1, g_gs10, g_sub20, e_sub1, g_sub10, g_run10, g_run11, add_ii, ixt0, ixt1, ixt2, len_t0, len_t1, len_t2, len_t3, mkS, List.map_cons, List.map_nil, List.replicate, List.cons_append, List.nil_append, List.length_cons, List.length_nil, Nat.zero_add, Nat.reduceAdd, Nat.reduceBEq, Nat.beq, cond_true, cond_false, nth, setN, at?, oSub, oMul, oDiv, oMod, uNeg, oCmpI, oLt, oLe, oGt, oGe, subS, setAll, bInt, bDivmod, bAbs, bMax2, truM, isTys, isTy, Bool.or_false, Bool.false_or, Bool.true_or, Bool.or_true, Bool.and_true, Bool.true_and, Bool.and_false, Bool.false_and, Bool.not_true, Bool.not_false, eq_str, eq_int, ne_str, ne_int, nat_beq, Int.reduceEq, Int.reduceLT, Int.reduceLE, decide_true, decide_false, reduceCtorEq, y5, y4, ft3, hwd]
  -- full ones
  obtain ⟨ra, m8, za, ka, pa, xa⟩ := row_ok (part := .tup [.str "one"]) (d := 0) (n := 14) S2.pot .one (by decide) k (by omega)
  have za : tab bodies k 16 [.ref a, .int 14, .tup [.str "one"]] m7 = .ok ra m8 := za
  have ff : Kn 5 (.tup [.str "fun", w5, w5]) := .two (.inl rfl) k5 k5
  obtain ⟨i3, q3, S3⟩ := sm_ext S2 (m' := m8.new (.lst [w5, .tup [.str "fun", w5, w5], ra])) ⟨xa.trans .new, fun _ => pa.new⟩ ca get_new_self (by simp only [List.length_append, len0, f5, g5]; show 31 ≤ 16777216; decide)
  have t5 : (sExpr (cMe1 mExtend (cVar 2) (cLst (aCons (cFun (tab bodies k) 15 1 (aCons (cLit (.int 5)) aNil)) (aCons (cTup (aCons (cLit (.str ("fun" : Str))) (aCons (cFun (tab bodies k) 15 1 (aCons (cLit (.int 5)) aNil)) (aCons (cFun (tab bodies k) 15 1 (aCons (cLit (.int 5)) aNil)) aNil)))) (aCons (cFun (tab bodies k) 16 3 (aCons (cVar 0) (aCons (cLit (.int 14)) (aCons (cTup (aCons (cLit (.str ("one" : Str))) aNil)) aNil)))) aNil)))))) [some (.ref a), some v, some (.ref m2.n), some wd, none, none, none, none, none] m7 = .ok (.nx [some (.ref a), some v, some (.ref m2.n), some wd, none, none, none, none, none]) ((m8.new (.lst [w5, .tup [.str "fun", w5, w5], ra])).put m2.n (.lst (l0 ++ r1 ++ r2 ++ [w5, .tup [.str "fun", w5, w5], ra]))) := by
    simp only [of_some, v_lit, v_var, v_nil, v_dct0, v_none, x_nil, x_cont, y_nm, y_nil, g_bin20, e_bin1, g_bin10, e_un1, g_un10, g_cons20, e_cons1, g_cons10, g_tup20, e_tup1, g_tup10, g_lst20, e_lst1, g_lst10, g_fun20, e_fun1, g_fun10, g_key20, e_key1, g_key10, e_ap1, g_ap10, e_pick, g_pick0, g_pick1, g_pick2, g_pick3, e_sif, e_and1, g_and10, g_and11, e_or1, g_or10, g_or11, e_not1, g_not, g_chain40, g_chain30, g_chain31, g_chain20, e_chain1, g_chain10, e_val1, g_val, e_tru1, g_tru10, e_tand, g_tand0, g_tand1, e_tor, g_tor0, g_tor1, e_tnot, g_tnot, g_isi2, e_isi1, g_isi10, g_sl30, g_sl20, e_sl1, g_sl10, e_part1, g_part10, g_meA0, e_me0, g_me00, g_meB0, e_me1, g_me10, e_seq1, g_seq10, g_seq11, g_seq12, e_ret1, g_ret10, e_expr1, g_expr10, g_asg20, e_asg1, g_asg10, g_par20, e_par1, g_par10, e_gtup, g_gtup0, e_gs1, g_gs10, g_sub20, e_sub1, g_sub10, g_run10, g_run11, add_ii, ixt0, ixt1, ixt2, len_t0, len_t1, len_t2, len_t3, mkS, List.map_cons, List.map_nil, List.replicate, List.cons_append, List.nil_append, List.length_cons, List.length_nil, Nat.zero_add, Nat.reduceAdd, Nat.reduceBEq, Nat.beq, cond_true, cond_false, nth, setN, at?, oSub, oMul, oDiv, oMod, uNeg, oCmpI, oLt, oLe, oGt, oGe, subS, setAll, bInt, bDivmod, bAbs, bMax2, truM, isTys, isTy, Bool.or_false, Bool.false_or, Bool.true_or, Bool.or_true, Bool.and_true, Bool.true_and, Bool.and_false, Bool.false_and, Bool.not_true, Bool.not_false, eq_str, eq_int, ne_str, ne_int, nat_beq, Int.reduceEq, Int.reduceLT, Int.reduceLE, decide_true, decide_false, reduceCtorEq, y5, za, ft1, ft3, i3, q3]
  obtain ⟨m9, hm9⟩ : ∃ x, x = (m8.new (.lst [w5, .tup [.str "fun", w5, w5], ra])).put m2.n (.lst (l0 ++ r1 ++ r2 ++ [w5, .tup [.str "fun", w5, w5], ra])) := ⟨_, rfl⟩
  rw [← hm9] at t5 S3
  -- wide ones
  obtain ⟨rb, mb, zb, kb, pb, xb⟩ := row_ok (part := .tup [.str "one"]) (d := 0) (n := 5) S3.pot .one (by decide) k (by omega)
  obtain ⟨rc, mc, zc, kc, pc, xc⟩ := row_ok (part := .tup [.str "one"]) (d := 0) (n := 6) pb .one (by decide) k (by omega)
  have zb : tab bodies k 16 [.ref a, .int 5, .tup [.str "one"]] m9 = .ok rb mb := zb
  have zc : tab bodies k 16 [.ref a, .int 6, .tup [.str "one"]] mb = .ok rc mc := zc
  obtain ⟨i4, q4, S4⟩ := sm_ext S3 (m' := mc.new (.lst [wd, .tup [.str "sum", wd, rb], .tup [.str "sum", wd, rc]])) ⟨xb.trans (xc.trans .new), fun _ => pc.new⟩ ca get_new_self (by simp only [List.length_append, len0, f5, g5]; show 34 ≤ 16777216; decide)
  have t6 : (sExpr (cMe1 mExtend (cVar 2) (cLst (aCons (cVar 3) (aCons (cTup (aCons (cLit (.str ("sum" : Str))) (aCons (cVar 3) (aCons (cFun (tab bodies k) 16 3 (aCons (cVar 0) (aCons (cLit (.int 5)) (aCons (cTup (aCons (cLit (.str ("one" : Str))) aNil)) aNil)))) aNil)))) (aCons (cTup (aCons (cLit (.str ("sum" : Str))) (aCons (cVar 3) (aCons (cFun (tab bodies k) 16 3 (aCons (cVar 0) (aCons (cLit (.int 6)) (aCons (cTup (aCons (cLit (.str ("one" : Str))) aNil)) aNil)))) aNil)))) aNil)))))) [some (.ref a), some v, some (.ref m2.n), some wd, none, none, none, none, none] m9 = .ok (.nx [some (.ref a), some v, some (.ref m2.n), some wd, none, none, none, none, none]) ((mc.new (.lst [wd, .tup [.str "sum", wd, rb], .tup [.str "sum", wd, rc]])).put m2.n (.lst (l0 ++ r1 ++ r2 ++ [w5, .tup [.str "fun", w5, w5], ra] ++ [wd, .tup [.str "sum", wd, rb], .tup [.str "sum", wd, rc]]))) := by
    simp only [of_some, v_lit, v_var, v_nil, v_dct0, v_none, x_nil, x_cont, y_nm, y_nil, g_bin20, e_bin1, g_bin10, e_un1, g_un10, g_cons20, e_cons1, g_cons10, g_tup20, e_tup1, g_tup10, g_lst20, e_lst1, g_lst10, g_fun20, e_fun1, g_fun10, g_key20, e_key1, g_key10, e_ap1, g_ap10, e_pick, g_pick0, g_pick1, g_pick2, g_pick3, e_sif, e_and1, g_and10, g_and11, e_or1, g_or10, g_or11, e_not1, g_not, g_chain40, g_chain30, g_chain31, g_chain20, e_chain1, g_chain10, e_val1, g_val, e_tru1, g_tru10, e_tand, g_tand0, g_tand1, e_tor, g_tor0, g_tor1, e_tnot, g_tnot, g_isi2, e_isi1, g_isi10, g_sl30, g_sl20, e_sl1, g_sl10, e_part1, g_part10, g_meA0, e_me0, g_me00, g_meB0, e_me1, g_me10, e_seq1, g_seq10, g_seq11, g_seq12, e_ret1, g_ret10, e_expr1, g_expr10, g_asg20, e_asg1, g_asg10, g_par20, e_par1, g_par10, e_gtup, g_gtup0, e_gs1, g_gs10, g_sub20, e_sub1, g_sub10, g_run10, g_run11, add_ii, ixt0, ixt1, ixt2, len_t0, len_t1, len_t2, len_t3, mkS, List.map_cons, List.map_nil, List.replicate, List.cons_append, List.nil_append, List.length_cons, List.length_nil, Nat.zero_add, Nat.reduceAdd, Nat.reduceBEq, Nat.beq, cond_true, cond_false, nth, setN, at?, oSub, oMul, oDiv, oMod, uNeg, oCmpI, oLt, oLe, oGt, oGe, subS, setAll, bInt, bDivmod, bAbs, bMax2, truM, isTys, isTy, Bool.or_false, Bool.false_or, Bool.true_or, Bool.or_true, Bool.and_true, Bool.true_and, Bool.and_false, Bool.false_and, Bool.not_true, Bool.not_false, eq_str, eq_int, ne_str, ne_int, nat_beq, Int.reduceEq, Int.reduceLT, Int.reduceLE, decide_true, decide_false, reduceCtorEq, zb, zc, ft1, ft3, i4, q4]
  obtain ⟨lf, hlf⟩ : ∃ x : List MV, x = l0 ++ r1 ++ r2 ++ [w5, .tup [.str "fun", w5, w5], ra] ++ [wd, .tup [.str "sum", wd, rb], .tup [.str "sum", wd, rc]] := ⟨_, rfl⟩
  rw [← hlf] at t6 S4
  obtain ⟨mf, hmf⟩ : ∃ x, x = (mc.new (.lst [wd, .tup [.str "sum", wd, rb], .tup [.str "sum", wd, rc]])).put m2.n (.lst lf) := ⟨_, rfl⟩
  rw [← hmf] at t6 S4
  have lenf : lf.length = 34 := by rw [hlf]; simp only [List.length_append, len0, f5, g5]; rfl
  have kn : ∀ y ∈ lf, y ∈ l0 ∨ Kn 14 y := fun y hy => by
    rw [hlf] at hy
    rcases List.mem_append.mp hy with hy | hy
    · rcases List.mem_append.mp hy with hy | hy
      · rcases List.mem_append.mp hy with hy | hy
        · rcases List.mem_append.mp hy with hy | hy
          · exact .inl hy
          · exact .inr (f4 y hy)
        · exact .inr (g4 y hy)
      · rcases List.mem_cons.mp hy with rfl | hy
        · exact .inr (k5.up _ (by decide))
        · rcases List.mem_cons.mp hy with rfl | hy
          · exact .inr (ff.up _ (by decide))
          · rw [List.mem_singleton.mp hy]; exact .inr (ka.up _ (by decide))
    · rcases List.mem_cons.mp hy with rfl | hy
      · exact .inr (kwd.up _ (by decide))
      · rcases List.mem_cons.mp hy with rfl | hy
        · exact .inr (Kn.up (Kn.two (d := 5) (.inr (.inr rfl)) kwd (kb.up _ (by decide))) 14 (by decide))
        · rw [List.mem_singleton.mp hy]; exact .inr (Kn.up (Kn.two (d := 6) (.inr (.inr rfl)) (kwd.up _ (by decide)) (kc.up _ (by decide))) 14 (by decide))
  -- the loop
  obtain ⟨CL, hCL⟩ : ∃ x : List MV, x = [.non, .int 0, .str "", .str "one", .tup [], .ref mf.n, .ref (mf.n + 1), .bl true, .tup [.str "one"], .tup [.str "letter", .int 5], .tup [.str "letter", .int 6], .tup [.tup [.str "one"]]] := ⟨_, rfl⟩
  obtain ⟨mg, hmg⟩ : ∃ x, x = ((mf.new (.lst [])).new (.dct [])).new (.lst CL) := ⟨_, rfl⟩
  have lc : m2.n < mf.n := M.get_lt S4.at_
  have laf := S4.pot.lt
  have gA : mg.get m2.n = some (.lst lf) := by rw [hmg]; exact get_new_old (get_new_old (get_new_old S4.at_))
  have gB : mg.get (mf.n + 1 + 1) = some (.lst CL) := by rw [hmg]; exact get_new_self
  have pl2 := add_rr gA gB (by rw [lenf, hCL]; show 46 ≤ 16777216; decide)
  have gC : (mg.new (.lst (lf ++ CL))).get mg.n = some (.lst (lf ++ CL)) := get_new_self
  have gD : (mg.new (.lst (lf ++ CL))).get mf.n = some (.lst []) := by rw [hmg]; exact get_new_old (get_new_old (get_new_old get_new_self))
  have gE : (mg.new (.lst (lf ++ CL))).get (mf.n + 1) = some (.dct []) := by rw [hmg]; exact get_new_old (get_new_old get_new_self)
  have xg : Ext2 a m2.n mf (mg.new (.lst (lf ++ CL))) := by rw [hmg]; exact .of (Ext.trans .new (Ext.trans .new (Ext.trans .new .new)))
  have it : itR [some (.ref a), some v, some (.ref m2.n), some wd, none, none, none, none, none] mf = .ok (.live mg.n (lf ++ CL).length) (mg.new (.lst (lf ++ CL))) := by
    refine e_iseqL ?_ gC
    rw [hmg, hCL] at pl2 ⊢
    simp only [add_new] at pl2 ⊢
    simp only [of_some, v_lit, v_var, v_nil, v_dct0, v_none, x_nil, x_cont, y_nm, y_nil, g_bin20, e_bin1, g_bin10, e_un1, g_un10, g_cons20, e_cons1, g_cons10, g_tup20, e_tup1, g_tup10, g_lst20, e_lst1, g_lst10, g_fun20, e_fun1, g_fun10, g_key20, e_key1, g_key10, e_ap1, g_ap10, e_pick, g_pick0, g_pick1, g_pick2, g_pick3, e_sif, e_and1, g_and10, g_and11, e_or1, g_or10, g_or11, e_not1, g_not, g_chain40, g_chain30, g_chain31, g_chain20, e_chain1, g_chain10, e_val1, g_val, e_tru1, g_tru10, e_tand, g_tand0, g_tand1, e_tor, g_tor0, g_tor1, e_tnot, g_tnot, g_isi2, e_isi1, g_isi10, g_sl30, g_sl20, e_sl1, g_sl10, e_part1, g_part10, g_meA0, e_me0, g_me00, g_meB0, e_me1, g_me10, e_seq1, g_seq10, g_seq11, g_seq12, e_ret1, g_ret10, e_expr1, g_expr10, g_asg20, e_asg1, g_asg10, g_par20, e_par1, g_par10, e_gtup, g_gtup0, e_gs1, g_gs10, g_sub20, e_sub1, g_sub10, g_run10, g_run11, add_ii, ixt0, ixt1, ixt2, len_t0, len_t1, len_t2, len_t3, mkS, List.map_cons, List.map_nil, List.replicate, List.cons_append, List.nil_append, List.length_cons, List.length_nil, Nat.zero_add, Nat.reduceAdd, Nat.reduceBEq, Nat.beq, cond_true, cond_false, nth, setN, at?, oSub, oMul, oDiv, oMod, uNeg, oCmpI, oLt, oLe, oGt, oGe, subS, setAll, bInt, bDivmod, bAbs, bMax2, truM, isTys, isTy, Bool.or_false, Bool.false_or, Bool.true_or, Bool.or_true, Bool.and_true, Bool.true_and, Bool.and_false, Bool.false_and, Bool.not_true, Bool.not_false, eq_str, eq_int, ne_str, ne_int, nat_beq, Int.reduceEq, Int.reduceLT, Int.reduceLE, decide_true, decide_false, reduceCtorEq, ft0, ft1, ft2, ft12, add_new, pl2]
  have vals : ∀ u ∈ lf ++ CL, Val k (mg.new (.lst (lf ++ CL))) u := fun u hu => by
    have nn : ∀ {m : M}, Nice a m [.non] 1 0 := ⟨[.none], .non .nil, rfl, rfl, rfl, by decide, by decide⟩
    have nb : ∀ {m : M} {b : Bool}, Nice a m [.bl b] 1 0 := ⟨[.bool _], .bl .nil, rfl, rfl, rfl, by simp [PyData.weightAll, PyData.weight], by simp [PyData.depthAll, PyData.depth]⟩
    rcases List.mem_append.mp hu with hu | hu
    · rcases kn u hu with h | h
      · exact nice_val (nice_old (S4.ext.trans xg) (Nat.le_refl _) (nice0 u h)) (by decide) (by decide) k (by omega)
      · exact nice_val (a := a) h.nice (by decide) (by decide) k (by omega)
    · have s1 : ∀ {m : M}, Nice a m [.str "one"] 4 0 := nice_str (n := 3) (by decide +kernel) (by decide +kernel) (by decide +kernel)
      have s3 : ∀ {m : M}, Nice a m [.str "letter"] 7 0 := nice_str (n := 6) (by decide +kernel) (by decide +kernel) (by decide +kernel)
      rw [hCL] at hu
      rcases List.mem_cons.mp hu with rfl | hu
      · exact nice_val (a := a) nn (by decide) (by decide) k (by omega)
      rcases List.mem_cons.mp hu with rfl | hu
      · exact nice_val (a := a) (small_int (by decide) (by decide)) (by decide) (by decide) k (by omega)
      rcases List.mem_cons.mp hu with rfl | hu
      · exact nice_val (a := a) (nice_str (n := 0) (by decide +kernel) (by decide +kernel) (by decide +kernel)) (by decide) (by decide) k (by omega)
      rcases List.mem_cons.mp hu with rfl | hu
      · exact nice_val (a := a) s1 (by decide) (by decide) k (by omega)
      rcases List.mem_cons.mp hu with rfl | hu
      · exact nice_val (a := a) Nice.nil.tup (by decide) (by decide) k (by omega)
      rcases List.mem_cons.mp hu with rfl | hu
      · exact nice_val (a := a) (Nice.lst (by omega) gD .nil) (by decide) (by decide) k (by omega)
      rcases List.mem_cons.mp hu with rfl | hu
      · exact dct_val gE k (by omega)
      rcases List.mem_cons.mp hu with rfl | hu
      · exact nice_val (a := a) nb (by decide) (by decide) k (by omega)
      rcases List.mem_cons.mp hu with rfl | hu
      · exact nice_val (a := a) s1.tup (by decide) (by decide) k (by omega)
      rcases List.mem_cons.mp hu with rfl | hu
      · exact nice_val (a := a) (s3.cons (small_int (by decide) (by decide))).tup (by decide) (by decide) k (by omega)
      rcases List.mem_cons.mp hu with rfl | hu
      · exact nice_val (a := a) (s3.cons (small_int (by decide) (by decide))).tup (by decide) (by decide) k (by omega)
      · rw [List.mem_singleton.mp hu]; exact nice_val (a := a) s1.tup.tup (by decide) (by decide) k (by omega)
  obtain ⟨σ', mh, z7, gr⟩ := for_ok gC vals (s0 := some (.ref a)) (s1 := some v) (s2 := some (.ref m2.n)) (s3 := some wd) (s4 := none) (s5 := none) (s6 := none) (s7 := none) (s8 := none)
  have t7 : (sFor (iSeqC (cBin oAdd (cVar 2) (cLst (aCons (cLit .non) (aCons (cLit (.int 0)) (aCons (cLit (.str ("" : Str))) (aCons (cLit (.str ("one" : Str))) (aCons (cTup aNil) (aCons (cLst aNil) (aCons cDct0 (aCons (cLit (.bl true)) (aCons (cTup (aCons (cLit (.str ("one" : Str))) aNil)) (aCons (cTup (aCons (cLit (.str ("letter" : Str))) (aCons (cLit (.int 5)) aNil))) (aCons (cTup (aCons (cLit (.str ("letter" : Str))) (aCons (cLit (.int 6)) aNil))) (aCons (cTup (aCons (cTup (aCons (cLit (.str ("one" : Str))) aNil)) aNil)) aNil))))))))))))))) (gNm 4) (sSeq (sPar [5, 6] (aCons (cFun (tab bodies k) 13 1 (aCons (cVar 4) aNil)) (aCons (cAp bRepr (aCons (cVar 4) aNil)) aNil))) (sIf (tOrC (tVal (cBin oNe (cAp bRepr (aCons (cLst (aCons (cFun (tab bodies k) 5 1 (aCons (cVar 4) aNil)) (aCons (cFunK (tab bodies k) 5 0 1 1 [(2, 0)] [] aNil (aCons (cVar 4) aNil)) aNil))) aNil)) (cAp bRepr (aCons (cLst (aCons (cVar 5) (aCons (cVar 5) aNil))) aNil)))) (tVal (cBin oNe (cAp bRepr (aCons (cVar 4) aNil)) (cVar 6)))) (sRet (cLit (.bl false))) sNil))) [some (.ref a), some v, some (.ref m2.n), some wd, none, none, none, none, none] mf = .ok (.nx σ') mh := by
    show Rs.bind (itR _ mf) _ = _
    rw [it]
    exact z7
  have t8 : (sRet (cLit (.bl true))) σ' mh = .ok (.rt (.bl true)) mh := rfl
  refine ⟨mh, ?_, ?_⟩
  · rw [show tab bodies (k + 1) 17 = runB 1 8 (c__law_right (tab bodies k)) from rfl, x_run rfl]
    simp only [c__law_right, e_seq1, g_seq10, mkS, List.map_cons, List.map_nil, List.replicate, List.cons_append, List.nil_append, t0, t1, t2, t3, t4, t5, t6, t7, t8, g_run11]
  · have l1 := x1.le
    have ex := (S4.ext.trans xg).trans (Ext2.of (gr.ext (a := a)))
    refine ⟨by have := ex.le; omega, fun b o hb g => ?_⟩
    have hbm := M.get_lt g
    exact ex.keep b o hb (by omega) ((x1.trans (Ext.trans .new e3.1)).keep b o hb g)
end W_k11

set_option Elab.async false
set_option linter.all false
set_option maxRecDepth 100000
set_option maxHeartbeats 4000000
namespace W_k11
open PySem Mini
theorem all_true : ∀ {ys : List MV}, (∀ y ∈ ys, y = .bl true) → ∃ bs, blsOf ys = some bs ∧ allB bs = true
  | [], _ => ⟨[], rfl, rfl⟩
  | y :: ys, h => by
    obtain ⟨bs, e1, e2⟩ := all_true fun u hu => h u (List.mem_cons_of_mem _ hu)
    rw [h y (List.mem_cons_self ..)]
    exact ⟨true :: bs, by simp only [blsOf, e1], by simp only [allB, e2, Bool.and_true]⟩
theorem law_ok (ns : List Int) (hn : ns.length ≤ 63) : ∃ m', tab bodies 200 18 [.ref 0] (scr ns) = .ok (.bl true) m' := by
  have g0 := scr_get ns
  have ln := len_f g0
  rw [List.length_map] at ln
  obtain ⟨c, hc⟩ : ∃ c : Int, c = if (if (ns.length : Int) < 2 then (ns.length : Int) else 2) > 1 then (if (ns.length : Int) < 2 then (ns.length : Int) else 2) else 1 := ⟨_, rfl⟩
  have c1 : 1 ≤ c := by rw [hc]; split <;> omega
  have c2 : c ≤ 2 := by rw [hc]; repeat (first | omega | split)
  have hi : iRng1 (cAp bMax2 (aCons (cLit (.int 1)) (aCons (cAp bMin2 (aCons (cLit (.int 2)) (aCons (cAp bLen (aCons (cVar 0) aNil)) aNil))) aNil))) [some (.ref 0), none] (scr ns) = .ok (.rng 0 c.toNat) (scr ns) := by
    refine e_irng ?_ (blt_of (by omega))
    simp only [of_some, v_lit, v_var, v_nil, v_dct0, v_none, x_nil, x_cont, y_nm, y_nil, g_bin20, e_bin1, g_bin10, e_un1, g_un10, g_cons20, e_cons1, g_cons10, g_tup20, e_tup1, g_tup10, g_lst20, e_lst1, g_lst10, g_fun20, e_fun1, g_fun10, g_key20, e_key1, g_key10, e_ap1, g_ap10, e_pick, g_pick0, g_pick1, g_pick2, g_pick3, e_sif, e_and1, g_and10, g_and11, e_or1, g_or10, g_or11, e_not1, g_not, g_chain40, g_chain30, g_chain31, g_chain20, e_chain1, g_chain10, e_val1, g_val, e_tru1, g_tru10, e_tand, g_tand0, g_tand1, e_tor, g_tor0, g_tor1, e_tnot, g_tnot, g_isi2, e_isi1, g_isi10, g_sl30, g_sl20, e_sl1, g_sl10, e_part1, g_part10, g_meA0, e_me0, g_me00, g_meB0, e_me1, g_me10, e_seq1, g_seq10, g_seq11, g_seq12, e_ret1, g_ret10, e_expr1, g_expr10, g_asg20, e_asg1, g_asg10, g_par20, e_par1, g_par10, e_gtup, g_gtup0, e_gs1, g_gs10, g_sub20, e_sub1, g_sub10, g_run10, g_run11, add_ii, ixt0, ixt1, ixt2, len_t0, len_t1, len_t2, len_t3, mkS, List.map_cons, List.map_nil, List.replicate, List.cons_append, List.nil_append, List.length_cons, List.length_nil, Nat.zero_add, Nat.reduceAdd, Nat.reduceBEq, Nat.beq, cond_true, cond_false, nth, setN, at?, oSub, oMul, oDiv, oMod, uNeg, oCmpI, oLt, oLe, oGt, oGe, subS, setAll, bInt, bDivmod, bAbs, bMax2, truM, isTys, isTy, Bool.or_false, Bool.false_or, Bool.true_or, Bool.or_true, Bool.and_true, Bool.true_and, Bool.and_false, Bool.false_and, Bool.not_true, Bool.not_false, eq_str, eq_int, ne_str, ne_int, nat_beq, Int.reduceEq, Int.reduceLT, Int.reduceLE, decide_true, decide_false, reduceCtorEq, ln, bMin2, hc]
  obtain ⟨ys, m2, e1, e2, e3, e4⟩ := comp_evJ (P := Grow) (Q := fun _ _ y => y = .bl true) way_grow (fun _ h => h) (J := .rng 0 c.toNat) (i := 1) (t := tYesC) (e := cFun (tab bodies 199) 17 1 (aCons (cFun (tab bodies 199) 6 2 (aCons (cVar 0) (aCons (cVar 1) aNil))) aNil)) (T := fun _ => true) (own := [1])
    (σ := [some (.ref 0), none]) (m := scr ns) (l := (List.range c.toNat).map fun i : Nat => MV.int (0 + (i : Int))) hi (by show c.toNat = _; simp)
    (fun j m v h => by
      rw [at?_eq, List.getElem?_map] at h
      by_cases q : j < c.toNat
      · rw [List.getElem?_range q] at h; exact h
      · rw [List.getElem?_eq_none (by rw [List.length_range]; omega)] at h; cases h) (fun _ _ => rfl) (by simp; omega)
    (fun _ _ _ _ h => h) (fun u hu m1 g => by
      refine ⟨rfl, fun _ => ?_⟩
      obtain ⟨i, _, rfl⟩ := List.mem_map.mp hu
      have gs := (Grow.trans .new g).keep _ _ g0
      obtain ⟨big, st, z, q1, q2, q3⟩ := pot_ok gs i 199 (by decide)
      have pp : Pot m1.n (m1.new (.lst [.int big, .int st])) := ⟨big, st, get_new_self, q1, q2, q3⟩
      obtain ⟨m2, z2, x2⟩ := right_ok pp 198 (by decide)
      refine ⟨.bl true, m2, by simp only [of_some, v_lit, v_var, v_nil, v_dct0, v_none, x_nil, x_cont, y_nm, y_nil, g_bin20, e_bin1, g_bin10, e_un1, g_un10, g_cons20, e_cons1, g_cons10, g_tup20, e_tup1, g_tup10, g_lst20, e_lst1, g_lst10, g_fun20, e_fun1, g_fun10, g_key20, e_key1, g_key10, e_ap1, g_ap10, e_pick, g_pick0, g_pick1, g_pick2, g_pick3, e_sif, e_and1, g_and10, g_and11, e_or1, g_or10, g_or11, e_not1, g_not, g_chain40, g_chain30, g_chain31, g_chain20, e_chain1, g_chain10, e_val1, g_val, e_tru1, g_tru10, e_tand, g_tand0, g_tand1, e_tor, g_tor0, g_tor1, e_tnot, g_tnot, g_isi2, e_isi1, g_isi10, g_sl30, g_sl20, e_sl1, g_sl10, e_part1, g_part10, g_meA0, e_me0, g_me00, g_meB0, e_me1, g_me10, e_seq1, g_seq10, g_seq11, g_seq12, e_ret1, g_ret10, e_expr1, g_expr10, g_asg20, e_asg1, g_asg10, g_par20, e_par1, g_par10, e_gtup, g_gtup0, e_gs1, g_gs10, g_sub20, e_sub1, g_sub10, g_run10, g_run11, add_ii, ixt0, ixt1, ixt2, len_t0, len_t1, len_t2, len_t3, mkS, List.map_cons, List.map_nil, List.replicate, List.cons_append, List.nil_append, List.length_cons, List.length_nil, Nat.zero_add, Nat.reduceAdd, Nat.reduceBEq, Nat.beq, cond_true, cond_false, nth, setN, at?, oSub, oMul, oDiv, oMod, uNeg, oCmpI, oLt, oLe, oGt, oGe, subS, setAll, bInt, bDivmod, bAbs, bMax2, truM, isTys, isTy, Bool.or_false, Bool.false_or, Bool.true_or, Bool.or_true, Bool.and_true, Bool.true_and, Bool.and_false, Bool.false_and, Bool.not_true, Bool.not_false, eq_str, eq_int, ne_str, ne_int, nat_beq, Int.reduceEq, Int.reduceLT, Int.reduceLE, decide_true, decide_false, reduceCtorEq, wipeS, Int.zero_add, z, z2], ⟨by have := x2.le; have h2 : (m1.new (.lst [.int big, .int st])).n = m1.n + 1 := rfl; omega, fun b o gb => x2.keep b o (by have := M.get_lt gb; omega) (get_new_old gb)⟩, rfl⟩)
  rw [filter_yes] at e4
  obtain ⟨bs, k1, k2⟩ := all_true fun y hy => (all2_right e4 y hy).elim fun _ h => h
  have al : bAll [.ref (scr ns).n] m2 = .ok (.bl true) m2 := by simp only [bAll, lstM, e2, k1, k2]
  refine ⟨m2, ?_⟩
  rw [show tab bodies 200 18 = runB 1 1 (c_law (tab bodies 199)) from rfl, x_run rfl]
  simp only [c_law, of_some, v_lit, v_var, v_nil, v_dct0, v_none, x_nil, x_cont, y_nm, y_nil, g_bin20, e_bin1, g_bin10, e_un1, g_un10, g_cons20, e_cons1, g_cons10, g_tup20, e_tup1, g_tup10, g_lst20, e_lst1, g_lst10, g_fun20, e_fun1, g_fun10, g_key20, e_key1, g_key10, e_ap1, g_ap10, e_pick, g_pick0, g_pick1, g_pick2, g_pick3, e_sif, e_and1, g_and10, g_and11, e_or1, g_or10, g_or11, e_not1, g_not, g_chain40, g_chain30, g_chain31, g_chain20, e_chain1, g_chain10, e_val1, g_val, e_tru1, g_tru10, e_tand, g_tand0, g_tand1, e_tor, g_tor0, g_tor1, e_tnot, g_tnot, g_isi2, e_isi1, g_isi10, g_sl30, g_sl20, e_sl1, g_sl10, e_part1, g_part10, g_meA0, e_me0, g_me00, g_meB0, e_me1, g_me10, e_seq1, g_seq10, g_seq11, g_seq12, e_ret1, g_ret10, e_expr1, g_expr10, g_asg20, e_asg1, g_asg10, g_par20, e_par1, g_par10, e_gtup, g_gtup0, e_gs1, g_gs10, g_sub20, e_sub1, g_sub10, g_run10, g_run11, add_ii, ixt0, ixt1, ixt2, len_t0, len_t1, len_t2, len_t3, mkS, List.map_cons, List.map_nil, List.replicate, List.cons_append, List.nil_append, List.length_cons, List.length_nil, Nat.zero_add, Nat.reduceAdd, Nat.reduceBEq, Nat.beq, cond_true, cond_false, nth, setN, at?, oSub, oMul, oDiv, oMod, uNeg, oCmpI, oLt, oLe, oGt, oGe, subS, setAll, bInt, bDivmod, bAbs, bMax2, truM, isTys, isTy, Bool.or_false, Bool.false_or, Bool.true_or, Bool.or_true, Bool.and_true, Bool.true_and, Bool.and_false, Bool.false_and, Bool.not_true, Bool.not_false, eq_str, eq_int, ne_str, ne_int, nat_beq, Int.reduceEq, Int.reduceLT, Int.reduceLE, decide_true, decide_false, reduceCtorEq, e1, al]
end W_k11
theorem PySem.Challenge.cw_hasprograms_k11_any_value_as_kind_holds : PySem.Challenge.rw_hasprograms_k11_any_value_as_kind.Holds :=
  W_k11.holds W_k11.law_ok
