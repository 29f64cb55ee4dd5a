import PyProof.Rows.All
import Wide.All
import OpenK.AllK
import Wide.FinOn
import Lean
import PySem.Challenge.RW_nu0354_01
set_option autoImplicit false
set_option Elab.async false
set_option maxRecDepth 10000
set_option linter.all false
namespace Mine
open PySem

/-- plain values -/
inductive V where
  | none | bool (b : Bool) | int (i : Int) | list (xs : List V) | tup (xs : List V) | rng (a b : Int) | tnum (v m : Int) | pen

/-- what a run asks of the pen, and what it gives -/
inductive Tree (α : Type) where
  | ret (a : α)
  | fail
  | draw (m : Int) (k : Int → Tree α)
  | pget (i : Nat) (k : V → Tree α)
  | pset (i : Nat) (v : Int) (k : Tree α)
  | any (c : Nat) (P : V → Prop) (k : V → Tree α)

namespace Tree
variable {α β : Type}
noncomputable def bind : Tree α → (α → Tree β) → Tree β
  | .ret a, f => f a
  | .fail, _ => .fail
  | .draw m k, f => .draw m fun d => (k d).bind f
  | .pget i k, f => .pget i fun v => (k v).bind f
  | .pset i v k, f => .pset i v (k.bind f)
  | .any c P k, f => .any c P fun v => (k v).bind f
end Tree

/-- what is known of the pen -/
inductive Pn where
  | none
  | known (c : List Int) (s k : Int)
  | upto (n : Nat)

namespace Tree
variable {α β : Type}
noncomputable def upN (p : Pn) (f : Nat → Prop) : Prop := match p with
  | .upto n => f n
  | _ => False
noncomputable def knP (p : Pn) (f : List Int → Int → Int → Prop) : Prop := match p with
  | .known c s t => f c s t
  | _ => False
noncomputable def All : Pn → Tree α → (Pn → α → Prop) → Prop
  | p, .ret a, K => K p a
  | _, .fail, _ => False
  | p, .draw m k, K => upN p fun n => 0 < m ∧ n < 1000 ∧ ∀ d, 0 ≤ d → d < m → All (.upto (n + 1)) (k d) K
  | p, .any c P k, K => upN p fun n => n + c ≤ 1000 ∧ ∀ v, P v → All (.upto (n + c)) (k v) K
  | p, .pget i k, K => knP p fun c s t => match i with
    | 0 => All (.known c s t) (k (.list (c.map .int))) K
    | 1 => All (.known c s t) (k (.int s)) K
    | 2 => All (.known c s t) (k (.int t)) K
    | _ => False
  | p, .pset i v k, K => knP p fun c s t => match i with
    | 1 => All (.known c v t) k K
    | 2 => All (.known c s v) k K
    | _ => False

theorem all_mono {K K' : Pn → α → Prop} : ∀ (t : Tree α) (p : Pn), All p t K → (∀ q a, K q a → K' q a) → All p t K'
  | .ret _, _, h, hk => hk _ _ h
  | .fail, _, h, _ => h
  | .draw _ k, .upto _, h, hk => ⟨h.1, h.2.1, fun d h0 h1 => all_mono (k d) _ (h.2.2 d h0 h1) hk⟩
  | .draw .., .none, h, _ => h
  | .draw .., .known .., h, _ => h
  | .any _ _ k, .upto _, h, hk => ⟨h.1, fun v hv => all_mono (k v) _ (h.2 v hv) hk⟩
  | .any .., .none, h, _ => h
  | .any .., .known .., h, _ => h
  | .pget 0 k, .known .., h, hk => all_mono (k _) _ h hk
  | .pget 1 k, .known .., h, hk => all_mono (k _) _ h hk
  | .pget 2 k, .known .., h, hk => all_mono (k _) _ h hk
  | .pget (_ + 3) _, .known .., h, _ => h
  | .pget .., .none, h, _ => h
  | .pget .., .upto _, h, _ => h
  | .pset 0 _ _, .known .., h, _ => h
  | .pset 1 _ k, .known .., h, hk => all_mono k (.known _ _ _) h hk
  | .pset 2 _ k, .known .., h, hk => all_mono k (.known _ _ _) h hk
  | .pset (_ + 3) _ _, .known .., h, _ => h
  | .pset .., .none, h, _ => h
  | .pset .., .upto _, h, _ => h

theorem all_bind_iff {K : Pn → β → Prop} {f : α → Tree β} : ∀ (t : Tree α) (p : Pn), All p (t.bind f) K = All p t fun q a => All q (f a) K
  | .ret _, _ => rfl
  | .fail, _ => rfl
  | .draw m k, p => congrArg (upN p) (funext fun n => congrArg (0 < m ∧ n < 1000 ∧ ·) (forall_congr fun d => forall_congr fun _ => forall_congr fun _ => all_bind_iff (k d) _))
  | .any c P k, p => congrArg (upN p) (funext fun n => congrArg (n + c ≤ 1000 ∧ ·) (forall_congr fun v => forall_congr fun _ => all_bind_iff (k v) _))
  | .pget i k, p => congrArg (knP p) (funext fun c => funext fun s => funext fun t => match i with
    | 0 => all_bind_iff (k _) _
    | 1 => all_bind_iff (k _) _
    | 2 => all_bind_iff (k _) _
    | _ + 3 => rfl)
  | .pset i v k, p => congrArg (knP p) (funext fun c => funext fun s => funext fun t => match i with
    | 0 => rfl
    | 1 => all_bind_iff k _
    | 2 => all_bind_iff k _
    | _ + 3 => rfl)
theorem all_bind {K : Pn → β → Prop} {f : α → Tree β} (t : Tree α) (p : Pn) (h : All p (t.bind f) K) : All p t fun q a => All q (f a) K := all_bind_iff t p ▸ h
theorem all_bind_of {K : Pn → β → Prop} {f : α → Tree β} (t : Tree α) (p : Pn) (h : All p t fun q a => All q (f a) K) : All p (t.bind f) K := by
  rw [all_bind_iff]; exact h

theorem bind_ret (t : Tree α) : t.bind .ret = t := by
  induction t with
  | ret a => rfl
  | fail => rfl
  | draw m k ih => simp only [bind, ih]
  | pget i k ih => simp only [bind, ih]
  | pset i v k ih => simp only [bind, ih]
  | any c P k ih => simp only [bind, ih]
theorem bind_assoc {γ : Type} (t : Tree α) (f : α → Tree β) (g : β → Tree γ) : (t.bind f).bind g = t.bind fun a => (f a).bind g := by
  induction t with
  | ret a => rfl
  | fail => rfl
  | draw m k ih => simp only [bind, ih]
  | pget i k ih => simp only [bind, ih]
  | pset i v k ih => simp only [bind, ih]
  | any c P k ih => simp only [bind, ih]
end Tree

/-- names of locals, by number -/
noncomputable abbrev Env := List (Nat × V)
noncomputable def get : Env → Nat → Option V
  | [], _ => Option.none
  | (j, v) :: r, i => bif Nat.beq j i then some v else get r i
noncomputable def set : Env → Nat → V → Env
  | [], i, v => [(i, v)]
  | (j, u) :: r, i, v => bif Nat.beq j i then (j, v) :: r else (j, u) :: set r i v
noncomputable def del : Env → Nat → Env
  | [], _ => []
  | (j, u) :: r, i => bif Nat.beq j i then del r i else (j, u) :: del r i
noncomputable def only (σ : Env) : List Nat → Env
  | [] => []
  | i :: r => match get σ i with
    | some v => (i, v) :: only σ r
    | Option.none => only σ r

theorem nbeq {i j : Nat} (h : ¬ i = j) : Nat.beq i j = false := by
  cases e : Nat.beq i j with
  | false => rfl
  | true => exact absurd (Nat.eq_of_beq_eq_true e) h
theorem get_set (σ : Env) (i j : Nat) (v : V) : get (set σ i v) j = if i = j then some v else get σ j := by
  induction σ with
  | nil =>
    simp only [set, get]
    by_cases h : i = j
    · subst h; simp
    · rw [nbeq h]; simp [h]
  | cons p r ih =>
    obtain ⟨k, u⟩ := p
    simp only [set]
    by_cases h : k = i
    · subst h
      simp only [Nat.beq_refl, cond_true, get]
      by_cases h2 : k = j
      · subst h2; simp
      · rw [nbeq h2]; simp [h2]
    · have hb : Nat.beq k i = false := nbeq h
      rw [hb]
      simp only [cond_false, get, ih]
      by_cases h2 : k = j
      · subst h2; simp [Ne.symm h]
      · have hb2 : Nat.beq k j = false := nbeq h2
        rw [hb2]; simp
theorem get_del (σ : Env) (i j : Nat) : get (del σ i) j = if i = j then Option.none else get σ j := by
  induction σ with
  | nil => simp [del, get]
  | cons p r ih =>
    obtain ⟨k, u⟩ := p
    simp only [del]
    by_cases h : k = i
    · subst h
      simp only [Nat.beq_refl, cond_true, ih, get]
      by_cases h2 : k = j
      · subst h2; simp
      · rw [nbeq h2]; simp [h2]
    · have hb : Nat.beq k i = false := nbeq h
      rw [hb]
      simp only [cond_false, get, ih]
      by_cases h2 : k = j
      · subst h2; simp [Ne.symm h]
      · have hb2 : Nat.beq k j = false := nbeq h2
        rw [hb2]; simp
theorem not_beq {i j : Nat} (h : (!Nat.beq i j) = true) : ¬ i = j := fun e => by subst e; rw [Nat.beq_refl] at h; cases h
theorem get_eq {σ : Env} {i : Nat} {v : V} : get (set σ i v) i = some v := by rw [get_set, if_pos rfl]
theorem get_ne {σ : Env} {i j : Nat} {v : V} {r : Option V} (h : (!Nat.beq i j) = true) (e : get σ j = r) : get (set σ i v) j = r := by rw [get_set, if_neg (not_beq h)]; exact e
theorem del_ne {σ : Env} {i j : Nat} {r : Option V} (h : (!Nat.beq i j) = true) (e : get σ j = r) : get (del σ i) j = r := by rw [get_del, if_neg (not_beq h)]; exact e
theorem get_only (σ : Env) (is : List Nat) (j : Nat) (v : V) (h : get (only σ is) j = some v) : j ∈ is ∧ get σ j = some v := by
  induction is with
  | nil => simp [only, get] at h
  | cons i r ih =>
    simp only [only] at h
    cases hi : get σ i with
    | none => rw [hi] at h; exact ⟨.tail _ (ih h).1, (ih h).2⟩
    | some u =>
      rw [hi] at h
      simp only [get] at h
      by_cases hij : i = j
      · subst hij; simp only [Nat.beq_refl, cond_true] at h; exact ⟨.head _, hi.trans h⟩
      · have hb : Nat.beq i j = false := nbeq hij
        rw [hb] at h; exact ⟨.tail _ (ih h).1, (ih h).2⟩

noncomputable def bound (σ : Env) (cap : List Nat) : Bool := cap.all fun i => (get σ i).isSome
/-- expressions -/
inductive X where
  | none | bool (b : Bool) | int (i : Int)
  | var (i : Nat)
  | gint (g : Nat)
  | bin (op : Operator) (l r : X)
  | neg (x : X)
  | notE (x : X)
  | cmp (op : CmpOp) (l r : X)
  | cmp2 (op : CmpOp) (l m : X) (op2 : CmpOp) (r : X)
  | isNone (x : X)
  | andE (xs : List X)
  | orE (xs : List X)
  | ite (c t e : X)
  | call (f : Nat) (args : List X)
  | static (f : Nat) (args : List X)
  | meth (f : Nat) (o : X) (args : List X)
  | value (o : X)
  | mask (o : X)
  | idx (o i : X)
  | penAt (o : X) (i : Nat)
  | upto (o : X) (k : Int)
  | list (xs : List X)
  | tup (xs : List X)
  | comp (elt : X) (tt : Bool) (ts : List Nat) (src : X) (cond : Option X) (cap gl : List Nat)
  | comp2 (elt : X) (t1 : Nat) (src1 : X) (t2 : Nat) (src2 : X) (cap gl : List Nat)

inductive S where
  | assign (x : Nat) (e : X)
  | own (x : Nat) (e : X)
  | freeze (x : Nat)
  | append (x : Nat) (e : X)
  | assignT (xs : List Nat) (es : List X)
  | ownNil (x y : Nat) (e : X)
  | setPen (p : Nat) (i : Nat) (e : X)
  | ifS (c : X) (t e : List S)
  | whileS (c : X) (b : List S)
  | forS (tt : Bool) (ts : List Nat) (src : X) (b : List S)
  | ret (e : X)

noncomputable def small (a : Int) : Bool := decide (a.natAbs < 2 ^ 64)
noncomputable def short (a : Int) : Bool := decide (a.natAbs < 2 ^ 300)
noncomputable def guard {α : Type} (b : Bool) (t : Tree α) : Tree α := match b with | true => t | false => .fail

noncomputable def ii (f : Int → Int → Tree V) : V → V → Tree V
  | .int a, .int b => f a b
  | _, _ => .fail
noncomputable def plusV : V → V → Tree V
  | .int a, .int b => .ret (.int (a + b))
  | .list xs, .list ys => guard (decide (xs.length + ys.length ≤ 1000000)) (.ret (.list (xs ++ ys)))
  | _, _ => .fail
noncomputable def opV (op : Operator) (a b : V) : Tree V := match op with
  | .Add => plusV a b
  | .Sub => ii (fun a b => .ret (.int (a - b))) a b
  | .Mult => ii (fun a b => guard (small a || small b) (.ret (.int (a * b)))) a b
  | .FloorDiv => ii (fun a b => guard (b != 0 && short b) (.ret (.int (a.fdiv b)))) a b
  | .Mod => ii (fun a b => guard (b != 0) (.ret (.int (a.fmod b)))) a b
  | .Pow => ii (fun a b => guard (decide (0 ≤ b) && decide (b ≤ 1000000) && small a) (.ret (.int (a ^ b.toNat)))) a b
  | .LShift => ii (fun a b => guard (decide (0 ≤ b) && decide (b ≤ 1000000) && small a) (.ret (.int (a * 2 ^ b.toNat)))) a b
  | .RShift => ii (fun a b => guard (decide (0 ≤ b)) (.ret (.int (a.fdiv (2 ^ b.toNat))))) a b
  | .BitAnd => ii (fun a b => .ret (.int (Builtin.bitAnd a b))) a b
  | .BitOr => ii (fun a b => .ret (.int (Builtin.bitOr a b))) a b
  | .BitXor => ii (fun a b => .ret (.int (Builtin.bitXor a b))) a b
  | _ => .fail
section
variable (a b : Int) (xs ys : List V)
theorem ov_add : opV .Add (.int a) (.int b) = .ret (.int (a + b)) := rfl
theorem ov_app : opV .Add (.list xs) (.list ys) = guard (decide (xs.length + ys.length ≤ 1000000)) (.ret (.list (xs ++ ys))) := rfl
theorem ov_sub : opV .Sub (.int a) (.int b) = .ret (.int (a - b)) := rfl
theorem ov_mul : opV .Mult (.int a) (.int b) = guard (small a || small b) (.ret (.int (a * b))) := rfl
theorem ov_div : opV .FloorDiv (.int a) (.int b) = guard (b != 0 && short b) (.ret (.int (a.fdiv b))) := rfl
theorem ov_mod : opV .Mod (.int a) (.int b) = guard (b != 0) (.ret (.int (a.fmod b))) := rfl
theorem ov_pow : opV .Pow (.int a) (.int b) = guard (decide (0 ≤ b) && decide (b ≤ 1000000) && small a) (.ret (.int (a ^ b.toNat))) := rfl
theorem ov_shl : opV .LShift (.int a) (.int b) = guard (decide (0 ≤ b) && decide (b ≤ 1000000) && small a) (.ret (.int (a * 2 ^ b.toNat))) := rfl
theorem ov_shr : opV .RShift (.int a) (.int b) = guard (decide (0 ≤ b)) (.ret (.int (a.fdiv (2 ^ b.toNat)))) := rfl
theorem ov_and : opV .BitAnd (.int a) (.int b) = .ret (.int (Builtin.bitAnd a b)) := rfl
theorem ov_or : opV .BitOr (.int a) (.int b) = .ret (.int (Builtin.bitOr a b)) := rfl
theorem ov_xor : opV .BitXor (.int a) (.int b) = .ret (.int (Builtin.bitXor a b)) := rfl
end
theorem ii_inv {f : Int → Int → Tree V} {u v : V} {pn : Pn} {K : Pn → V → Prop} (h : (ii f u v).All pn K) : ∃ a b, u = .int a ∧ v = .int b ∧ (f a b).All pn K := by
  cases u with
  | int a => cases v with
    | int b => exact ⟨a, b, rfl, rfl, h⟩
    | _ => exact False.elim h
  | _ => exact False.elim h
theorem plusV_inv {u v : V} {pn : Pn} {K : Pn → V → Prop} (h : (plusV u v).All pn K) : (∃ a b, u = .int a ∧ v = .int b ∧ K pn (.int (a + b))) ∨ ∃ xs ys, u = .list xs ∧ v = .list ys ∧ (guard (decide (xs.length + ys.length ≤ 1000000)) (.ret (.list (xs ++ ys)))).All pn K := by
  cases u with
  | int a => cases v with
    | int b => exact .inl ⟨a, b, rfl, rfl, h⟩
    | _ => exact False.elim h
  | list xs => cases v with
    | list ys => exact .inr ⟨xs, ys, rfl, rfl, h⟩
    | _ => exact False.elim h
  | _ => exact False.elim h

noncomputable def intsOf : List V → Option (List Int)
  | [] => some []
  | .int i :: r => (intsOf r).map (i :: ·)
  | _ :: _ => Option.none
noncomputable def boolsOf : List V → Option (List Bool)
  | [] => some []
  | .bool i :: r => (boolsOf r).map (i :: ·)
  | _ :: _ => Option.none

/-- == of plain values: scalars and flat sequences of scalars -/
noncomputable def eqS : V → V → Option Bool
  | .none, .none => some true
  | .bool a, .bool b => some (a == b)
  | .int a, .int b => some (a == b)
  | _, _ => Option.none
noncomputable def eqL : List V → List V → Option Bool
  | [], [] => some true
  | [], _ :: _ => some false
  | _ :: _, [] => some false
  | a :: r, b :: t => match eqS a b, eqL r t with
    | some x, some y => some (x && y)
    | _, _ => Option.none
noncomputable def scal : V → Bool
  | .none | .bool _ | .int _ => true
  | _ => false
noncomputable def eqV : V → V → Option Bool
  | .tup xs, .tup ys => match xs.all scal && ys.all scal with
    | true => eqL xs ys
    | false => Option.none
  | .list xs, .list ys => match intsOf xs, intsOf ys with
    | some ns, some ms => some (decide (ns = ms))
    | _, _ => Option.none
  | a, b => eqS a b
noncomputable def optT {α : Type} : Option α → Tree α
  | some a => .ret a
  | Option.none => .fail

noncomputable def cmpV (op : CmpOp) (a b : V) : Tree Bool := match op, a, b with
  | .Lt, .int a, .int b => .ret (decide (a < b))
  | .LtE, .int a, .int b => .ret (decide (a ≤ b))
  | .Gt, .int a, .int b => .ret (decide (a > b))
  | .GtE, .int a, .int b => .ret (decide (a ≥ b))
  | .Eq, a, b => optT (eqV a b)
  | .NotEq, a, b => optT ((eqV a b).map (!·))
  | .In, .int a, .list xs => match intsOf xs with
    | some ns => .ret (ns.any (· == a))
    | Option.none => .fail
  | _, _, _ => .fail

section
variable (a b : Int) (u v : V) (xs : List V) (p q : Bool)
theorem cv_lt : cmpV .Lt (.int a) (.int b) = .ret (decide (a < b)) := rfl
theorem cv_le : cmpV .LtE (.int a) (.int b) = .ret (decide (a ≤ b)) := rfl
theorem cv_gt : cmpV .Gt (.int a) (.int b) = .ret (decide (a > b)) := rfl
theorem cv_ge : cmpV .GtE (.int a) (.int b) = .ret (decide (a ≥ b)) := rfl
theorem cv_eq : cmpV .Eq u v = optT (eqV u v) := rfl
theorem cv_ne : cmpV .NotEq u v = optT ((eqV u v).map (!·)) := rfl
theorem cv_in : cmpV .In (.int a) (.list xs) = match intsOf xs with
    | some ns => .ret (ns.any (· == a))
    | Option.none => .fail := rfl
theorem eqv_int : eqV (.int a) (.int b) = some (a == b) := rfl
theorem eqv_bool : eqV (.bool p) (.bool q) = some (p == q) := rfl
theorem eqv_list (ys : List V) : eqV (.list xs) (.list ys) = match intsOf xs, intsOf ys with
    | some ns, some ms => some (decide (ns = ms))
    | _, _ => Option.none := rfl
end

noncomputable def isNoneV : V → Bool
  | .none => true
  | _ => false
noncomputable def truthyV : V → Tree Bool
  | .bool b => .ret b
  | .int i => .ret (i != 0)
  | _ => .fail

noncomputable def itemsV : V → Option (List V)
  | .list xs => some xs
  | .rng a b => some ((List.range (b - a).toNat).map fun i : Nat => .int (a + (i : Int)))
  | _ => Option.none
/-- a range that may be walked -/
noncomputable def walkable : V → Bool
  | .rng a b => decide (-(2 ^ 62) ≤ a) && decide (a < 2 ^ 62) && decide (-(2 ^ 62) ≤ b) && decide (b < 2 ^ 62) && decide (b - a ≤ 1000000)
  | _ => true
noncomputable def nthV (xs : List V) (i : Int) : Tree V := guard (decide (0 ≤ i) && decide (i < 2 ^ 62)) (optT xs[i.toNat]?)

noncomputable def nthAny : V → V → Tree V
  | .list xs, .int i => nthV xs i
  | .tup xs, .int i => nthV xs i
  | _, _ => .fail
noncomputable def evL (f : X → Tree V) : List X → Tree (List V)
  | [] => .ret []
  | x :: r => (f x).bind fun v => (evL f r).bind fun vs => .ret (v :: vs)
/-- the value of a chain of and / or -/
noncomputable def chainV (f : X → Tree V) (stop : Bool) : List X → Tree V
  | [] => .fail
  | [x] => f x
  | x :: r => (f x).bind fun v => (truthyV v).bind fun b => match b == stop with
    | true => .ret v
    | false => chainV f stop r
noncomputable def chainT (f : X → Tree Bool) (stop : Bool) : List X → Tree Bool
  | [] => .ret (!stop)
  | x :: r => (f x).bind fun b => match b == stop with
    | true => .ret stop
    | false => chainT f stop r
noncomputable def one1 {α β : Type} (f : α → Option β) : List α → Option β
  | [] => Option.none
  | a :: r => match r with
    | [] => f a
    | _ :: _ => Option.none
noncomputable def one2 {α β : Type} (f : α → α → Option β) : List α → Option β
  | [] => Option.none
  | a :: r => one1 (f a) r
noncomputable def tupV {β : Type} (f : List V → Option β) : V → Option β
  | .tup us => f us
  | _ => Option.none
noncomputable def bindT (σ : Env) (tt : Bool) (ts : List Nat) (v : V) : Option Env := match tt with
  | false => one1 (fun x => some (set σ x v)) ts
  | true => one2 (fun x y => tupV (one2 fun v u => some (set (set σ x v) y u)) v) ts
theorem bindT_1 {σ : Env} {x : Nat} {v : V} : bindT σ false [x] v = some (set σ x v) := rfl
theorem bindT_2 {σ : Env} {x y : Nat} {v u : V} : bindT σ true [x, y] (.tup [v, u]) = some (set (set σ x v) y u) := rfl
theorem noO {α : Type} {a : α} {P : Prop} (h : (Option.none : Option α) = some a) : P := by cases h
theorem one1_go {α β : Type} {f : α → Option β} {b : β} {M : List α → Prop} (k : ∀ a, f a = some b → M [a]) : ∀ {l : List α}, one1 f l = some b → M l
  | [], h => noO h
  | [a], h => k a h
  | _ :: _ :: _, h => noO h
theorem one2_go {α β : Type} {f : α → α → Option β} {b : β} {M : List α → Prop} (k : ∀ a a', f a a' = some b → M [a, a']) : ∀ {l : List α}, one2 f l = some b → M l
  | [], h => noO h
  | a :: _, h => one1_go (M := fun r => M (a :: r)) (k a) h
theorem tupV_go {β : Type} {f : List V → Option β} {b : β} {M : V → Prop} (k : ∀ us, f us = some b → M (.tup us)) {v : V} (h : tupV f v = some b) : M v := by
  cases v with
  | tup us => exact k us h
  | _ => exact noO h
theorem bindT_go {σ σ' : Env} {M : Bool → List Nat → V → Env → Prop} (k1 : ∀ x v, M false [x] v (set σ x v)) (k2 : ∀ x y v u, M true [x, y] (.tup [v, u]) (set (set σ x v) y u)) {tt : Bool} {ts : List Nat} {v : V} (h : bindT σ tt ts v = some σ') : M tt ts v σ' := by
  cases tt with
  | false => exact one1_go (M := fun ts => M false ts v σ') (fun x e => by cases e; exact k1 x v) h
  | true => exact one2_go (M := fun ts => M true ts v σ') (fun x y h => tupV_go (M := fun v => M true [x, y] v σ') (fun us h => one2_go (M := fun us => M true [x, y] (.tup us) σ') (fun v u e => by cases e; exact k2 x y v u) h) h) h
noncomputable def compL (f : V → Tree (Option V)) : List V → Tree (List V)
  | [] => .ret []
  | v :: r => (f v).bind fun o => (compL f r).bind fun vs => match o with
    | some u => .ret (u :: vs)
    | Option.none => .ret vs
noncomputable def itemF (c0 : V → Option Env) (test : Env → Tree Bool) (el : Env → Tree V) (v : V) : Tree (Option V) := match c0 v with
  | some σ' => (test σ').bind fun b => match b with
    | true => (el σ').bind fun u => .ret (some u)
    | false => .ret Option.none
  | Option.none => .fail
noncomputable def testF (t : Env → X → Tree Bool) (cond : Option X) (σ : Env) : Tree Bool := match cond with
  | some c => t σ c
  | Option.none => .ret true
noncomputable def rowF (σ : Env) (t1 t2 : Nat) (src elt : Env → Tree V) (v : V) : Tree (List V) := (src (set σ t1 v)).bind fun s => match s with
  | .list items => guard (decide (items.length ≤ 1000)) (compL (itemF (bindT (set σ t1 v) false [t2]) (fun _ => .ret true) elt) items)
  | _ => .fail
/-- two generators: each item's row, one after the other -/
noncomputable def flatL (f : V → Tree (List V)) : List V → Tree (List V)
  | [] => .ret []
  | v :: r => (f v).bind fun o => (flatL f r).bind fun vs => .ret (o ++ vs)

section
variable (F : Nat → List V → Tree V) (G : Nat → Int)
mutual
noncomputable def ev : Nat → Env → X → Tree V
  | 0, _, _ => .fail
  | n + 1, σ, x => match x with
    | .none => .ret .none
    | .bool b => .ret (.bool b)
    | .int i => .ret (.int i)
    | .var i => optT (get σ i)
    | .gint g => .ret (.int (G g))
    | .bin op l r => (ev n σ l).bind fun a => (ev n σ r).bind fun b => opV op a b
    | .neg x => (ev n σ x).bind fun v => match v with
      | .int i => .ret (.int (-i))
      | _ => .fail
    | .notE _ => .fail
    | .cmp op l r => (ev n σ l).bind fun a => (ev n σ r).bind fun b => (cmpV op a b).bind fun c => .ret (.bool c)
    | .cmp2 .. => .fail
    | .isNone x => (ev n σ x).bind fun v => .ret (.bool (isNoneV v))
    | .andE xs => chainV (ev n σ) false xs
    | .orE xs => chainV (ev n σ) true xs
    | .ite c t e => (tv n σ c).bind fun b => match b with
      | true => ev n σ t
      | false => ev n σ e
    | .call f args => (evL (ev n σ) args).bind (F f)
    | .static f args => (evL (ev n σ) args).bind (F f)
    | .meth f o args => (ev n σ o).bind fun v => match v with
      | .tnum a b => (evL (ev n σ) args).bind fun vs => F f (.tnum a b :: vs)
      | _ => .fail
    | .value o => (ev n σ o).bind fun v => match v with
      | .tnum a _ => .ret (.int a)
      | _ => .fail
    | .mask o => (ev n σ o).bind fun v => match v with
      | .tnum _ b => .ret (.int b)
      | _ => .fail
    | .idx o i => (ev n σ o).bind fun v => (ev n σ i).bind fun j => nthAny v j
    | .penAt o i => (ev n σ o).bind fun v => match v with
      | .pen => .pget i .ret
      | _ => .fail
    | .upto o k => (ev n σ o).bind fun v => match v with
      | .list xs => .ret (.list (xs.take k.toNat))
      | _ => .fail
    | .list xs => (evL (ev n σ) xs).bind fun vs => .ret (.list vs)
    | .tup xs => (evL (ev n σ) xs).bind fun vs => .ret (.tup vs)
    | .comp elt tt ts src cond cap _ => guard (bound σ cap) ((ev n σ src).bind fun s => match walkable s, itemsV s with
      | true, some items => (compL (itemF (bindT (only σ cap) tt ts) (testF (tv n) cond) (fun σ' => ev n σ' elt)) items).bind fun vs => .ret (.list vs)
      | _, _ => .fail)
    | .comp2 elt t1 src1 t2 src2 cap _ => guard (bound σ cap) ((ev n σ src1).bind fun s => match s with
      | .list items => guard (decide (items.length ≤ 1000)) ((flatL (rowF (only σ cap) t1 t2 (fun σ' => ev n σ' src2) (fun σ' => ev n σ' elt)) items).bind fun vs => .ret (.list vs))
      | _ => .fail)
noncomputable def tv : Nat → Env → X → Tree Bool
  | 0, _, _ => .fail
  | n + 1, σ, x => match x with
    | .notE x => (tv n σ x).bind fun b => .ret (!b)
    | .andE xs => chainT (tv n σ) false xs
    | .orE xs => chainT (tv n σ) true xs
    | .ite .. => .fail
    | .cmp op l r => (ev n σ l).bind fun a => (ev n σ r).bind fun b => cmpV op a b
    | .cmp2 op l m op2 r => (ev n σ l).bind fun a => (ev n σ m).bind fun b => (cmpV op a b).bind fun c => match c with
      | true => (ev n σ r).bind fun d => cmpV op2 b d
      | false => .ret false
    | .isNone x => (ev n σ x).bind fun v => .ret (isNoneV v)
    | x => (ev n σ x).bind truthyV
end

/-- a frame: the names that bear plain values; the one list that the frame owns -/
structure Fs where
  σ : Env
  own : Option (Nat × List V)

noncomputable def assignsL (σ : Env) : List Nat → List V → Option Env
  | [], [] => some σ
  | x :: xs, v :: vs => assignsL (set σ x v) xs vs
  | _, _ => Option.none
/-- a list that the very expression makes -/
noncomputable def freshX : X → Bool
  | .list _ => true
  | .bin .Add _ _ => true
  | _ => false

noncomputable abbrev Out := Tree (Fs × Option V)
noncomputable def whileL (c : Fs → Tree Bool) (b : Fs → Out) : Nat → Fs → Out
  | 0, _ => .fail
  | n + 1, f => (c f).bind fun t => match t with
    | true => (b f).bind fun r => match r.2 with
      | Option.none => whileL c b n r.1
      | some v => .ret (r.1, some v)
    | false => .ret (f, Option.none)
noncomputable def forL (b : V → Fs → Out) : List V → Fs → Out
  | [], f => .ret (f, Option.none)
  | v :: r, f => (b v f).bind fun o => match o.2 with
    | Option.none => forL b r o.1
    | some u => .ret (o.1, some u)
/-- the turns that a while may take -/
noncomputable def turns : Nat := 70

mutual
noncomputable def ex : Nat → Fs → S → Out
  | 0, _, _ => .fail
  | n + 1, f, s => match s with
    | .assign x e => (ev F G n f.σ e).bind fun v => .ret (⟨set f.σ x v, f.own⟩, Option.none)
    | .own x e => match freshX e, f.own with
      | true, Option.none => (ev F G n f.σ e).bind fun v => match v with
        | .list vs => .ret (⟨del f.σ x, some (x, vs)⟩, Option.none)
        | _ => .fail
      | _, _ => .fail
    | .freeze x => match f.own with
      | some (y, vs) => bif Nat.beq y x then .ret (⟨set f.σ x (.list vs), Option.none⟩, Option.none) else .fail
      | Option.none => .fail
    | .append x e => match f.own with
      | some (y, vs) => bif Nat.beq y x then (ev F G n f.σ e).bind fun v => guard (decide (vs.length ≤ 1000000)) (.ret (⟨f.σ, some (y, vs ++ [v])⟩, Option.none)) else .fail
      | Option.none => .fail
    | .assignT xs es => (evL (ev F G n f.σ) es).bind fun vs => match assignsL f.σ xs vs with
      | some σ => .ret (⟨σ, f.own⟩, Option.none)
      | Option.none => .fail
    | .ownNil x y e => match f.own with
      | Option.none => (ev F G n f.σ e).bind fun v => .ret (⟨set (del f.σ x) y v, some (x, [])⟩, Option.none)
      | _ => .fail
    | .setPen p i e => match get f.σ p with
      | some .pen => (ev F G n f.σ e).bind fun v => match v with
        | .int k => .pset i k (.ret (f, Option.none))
        | _ => .fail
      | _ => .fail
    | .ifS c t e => (tv F G n f.σ c).bind fun b => match b with
      | true => exB n f t
      | false => exB n f e
    | .whileS c b => whileL (fun f => tv F G n f.σ c) (fun f => exB n f b) turns f
    | .forS tt ts src b => (ev F G n f.σ src).bind fun s => match walkable s, itemsV s with
      | true, some items => forL (fun v f => match bindT f.σ tt ts v with
          | some σ => exB n ⟨σ, f.own⟩ b
          | Option.none => .fail) items f
      | _, _ => .fail
    | .ret e => (ev F G n f.σ e).bind fun v => .ret (f, some v)
noncomputable def exB : Nat → Fs → List S → Out
  | 0, _, _ => .fail
  | n + 1, f, b => match b with
    | [] => .ret (f, Option.none)
    | s :: r => (ex n f s).bind fun o => match o.2 with
      | Option.none => exB n o.1 r
      | some v => .ret (o.1, some v)
end

/-- a def's answer -/
noncomputable def runB (n : Nat) (b : List S) (σ : Env) : Tree V := (exB F G n ⟨σ, Option.none⟩ b).bind fun o => .ret (o.2.getD .none)
end

end Mine

namespace Mine
open PySem
noncomputable def nms : List String := ["size", "worth", "low", "count", "step", "free", "least", "most", "self", "width", "found", "rest", "value", "mask", "base", "top", "a", "b", "bottom", "n", "all_bits", "keep", "at", "cell", "script", "spot", "mixed", "digit", "great", "pen", "many", "some", "way", "turn", "is_row", "begin", "place", "near", "one", "pair", "high", "pairs", "rows", "told", "common", "x", "y", "results", "other", "ones_of", "others", "few", "strange", "first", "second", "number"]
noncomputable def fns : List String := ["int", "len", "sum", "abs", "min", "max", "all", "range", "list", "sorted", "U64", "U32", "Tnum", "ones", "wrap", "signed", "bit_count", "const", "unknown", "span", "contains", "is_const", "least", "most", "signed_least", "signed_most", "is_aligned", "free_bits", "told", "without", "tnum_add", "tnum_sub", "tnum_neg", "tnum_and", "tnum_or", "tnum_xor", "tnum_lsh", "tnum_rsh", "tnum_arsh", "zeros_below", "tnum_mul", "tnum_meet", "tnum_join", "tnum_within", "tnum_cast", "tnum_low32", "tnum_with_low32", "tnum_signed", "tnum_turned", "_law_all", "_law_half", "_law_pen", "_law_draw", "_law_pick", "_law_worth", "_law_pair", "_law_members", "_law_best", "_law_signed", "_law_turned", "_law_two_right", "_law_one_right", "_law_ends_right", "_law_span_right", "law"]
/- locals: 0 size, 1 worth, 2 low, 3 count, 4 step, 5 free, 6 least, 7 most, 8 self, 9 width, 10 found, 11 rest, 12 value, 13 mask, 14 base, 15 top, 16 a, 17 b, 18 bottom, 19 n, 20 all_bits, 21 keep, 22 at, 23 cell, 24 script, 25 spot, 26 mixed, 27 digit, 28 great, 29 pen, 30 many, 31 some, 32 way, 33 turn, 34 is_row, 35 begin, 36 place, 37 near, 38 one, 39 pair, 40 high, 41 pairs, 42 rows, 43 told, 44 common, 45 x, 46 y, 47 results, 48 other, 49 ones_of, 50 others, 51 few, 52 strange, 53 first, 54 second, 55 number -/
/- globals: 0 int, 1 len, 2 sum, 3 abs, 4 min, 5 max, 6 all, 7 range, 8 list, 9 sorted, 10 U64, 11 U32, 12 Tnum, 13 ones, 14 wrap, 15 signed, 16 bit_count, 17 const, 18 unknown, 19 span, 20 contains, 21 is_const, 22 least, 23 most, 24 signed_least, 25 signed_most, 26 is_aligned, 27 free_bits, 28 told, 29 without, 30 tnum_add, 31 tnum_sub, 32 tnum_neg, 33 tnum_and, 34 tnum_or, 35 tnum_xor, 36 tnum_lsh, 37 tnum_rsh, 38 tnum_arsh, 39 zeros_below, 40 tnum_mul, 41 tnum_meet, 42 tnum_join, 43 tnum_within, 44 tnum_cast, 45 tnum_low32, 46 tnum_with_low32, 47 tnum_signed, 48 tnum_turned, 49 _law_all, 50 _law_half, 51 _law_pen, 52 _law_draw, 53 _law_pick, 54 _law_worth, 55 _law_pair, 56 _law_members, 57 _law_best, 58 _law_signed, 59 _law_turned, 60 _law_two_right, 61 _law_one_right, 62 _law_ends_right, 63 _law_span_right, 64 law -/
/-- ones(size) -/
noncomputable def b_ones : List S := [
  .ret (.bin .Sub (.bin .LShift (.int 1) (.var 0)) (.int 1))]
noncomputable def l_ones : List Nat := [0]
noncomputable def g_ones : List Nat := []
/-- wrap(worth, size) -/
noncomputable def b_wrap : List S := [
  .ret (.bin .BitAnd (.var 1) (.bin .Sub (.bin .LShift (.int 1) (.var 0)) (.int 1)))]
noncomputable def l_wrap : List Nat := [1, 0]
noncomputable def g_wrap : List Nat := []
/-- signed(worth, size) -/
noncomputable def b_signed : List S := [
  .assign 2 (.bin .BitAnd (.var 1) (.bin .Sub (.bin .LShift (.int 1) (.var 0)) (.int 1))),
  .ret (.ite (.bin .RShift (.var 2) (.bin .Sub (.var 0) (.int 1))) (.bin .Sub (.var 2) (.bin .LShift (.int 1) (.var 0))) (.var 2))]
noncomputable def l_signed : List Nat := [1, 0, 2]
noncomputable def g_signed : List Nat := []
/-- bit_count(worth) -/
noncomputable def b_bit_count : List S := [
  .assign 3 (.int 0),
  .whileS (.cmp .Gt (.var 1) (.int 0)) [
    .assign 4 (.ite (.cmp .Gt (.var 1) (.int 255)) (.int 8) (.int 1)),
    .assign 1 (.bin .RShift (.var 1) (.var 4)),
    .assign 3 (.bin .Add (.var 3) (.var 4))],
  .ret (.var 3)]
noncomputable def l_bit_count : List Nat := [1, 3, 4]
noncomputable def g_bit_count : List Nat := []
/-- Tnum_const(worth) -/
noncomputable def b_Tnum_const : List S := [
  .ret (.call 12 [(.call 14 [(.var 1)]), (.int 0)])]
noncomputable def l_Tnum_const : List Nat := [1]
noncomputable def g_Tnum_const : List Nat := [12, 14]
/-- Tnum_unknown() -/
noncomputable def b_Tnum_unknown : List S := [
  .ret (.call 12 [(.int 0), (.gint 10)])]
noncomputable def l_Tnum_unknown : List Nat := []
noncomputable def g_Tnum_unknown : List Nat := [12, 10]
/-- Tnum_span(least, most) -/
noncomputable def b_Tnum_span : List S := [
  .assign 5 (.call 13 [(.call 16 [(.bin .BitXor (.var 6) (.var 7))])]),
  .ret (.call 12 [(.bin .Sub (.var 6) (.bin .BitAnd (.var 6) (.var 5))), (.var 5)])]
noncomputable def l_Tnum_span : List Nat := [6, 7, 5]
noncomputable def g_Tnum_span : List Nat := [13, 16, 12]
/-- Tnum_contains(self, worth) -/
noncomputable def b_Tnum_contains : List S := [
  .ret (.cmp .Eq (.bin .Sub (.var 1) (.bin .BitAnd (.var 1) (.mask (.var 8)))) (.value (.var 8)))]
noncomputable def l_Tnum_contains : List Nat := [8, 1]
noncomputable def g_Tnum_contains : List Nat := []
/-- Tnum_is_const(self) -/
noncomputable def b_Tnum_is_const : List S := [
  .ret (.cmp .Eq (.mask (.var 8)) (.int 0))]
noncomputable def l_Tnum_is_const : List Nat := [8]
noncomputable def g_Tnum_is_const : List Nat := []
/-- Tnum_least(self) -/
noncomputable def b_Tnum_least : List S := [
  .ret (.value (.var 8))]
noncomputable def l_Tnum_least : List Nat := [8]
noncomputable def g_Tnum_least : List Nat := []
/-- Tnum_most(self) -/
noncomputable def b_Tnum_most : List S := [
  .ret (.bin .BitOr (.value (.var 8)) (.mask (.var 8)))]
noncomputable def l_Tnum_most : List Nat := [8]
noncomputable def g_Tnum_most : List Nat := []
/-- Tnum_signed_least(self, size) -/
noncomputable def b_Tnum_signed_least : List S := [
  .ret (.call 15 [(.bin .BitOr (.value (.var 8)) (.bin .BitAnd (.mask (.var 8)) (.bin .LShift (.int 1) (.bin .Sub (.var 0) (.int 1))))), (.var 0)])]
noncomputable def l_Tnum_signed_least : List Nat := [8, 0]
noncomputable def g_Tnum_signed_least : List Nat := [15]
/-- Tnum_signed_most(self, size) -/
noncomputable def b_Tnum_signed_most : List S := [
  .ret (.call 15 [(.bin .BitOr (.value (.var 8)) (.bin .BitAnd (.mask (.var 8)) (.call 13 [(.bin .Sub (.var 0) (.int 1))]))), (.var 0)])]
noncomputable def l_Tnum_signed_most : List Nat := [8, 0]
noncomputable def g_Tnum_signed_most : List Nat := [15, 13]
/-- Tnum_is_aligned(self, width) -/
noncomputable def b_Tnum_is_aligned : List S := [
  .ret (.cmp .Eq (.bin .BitAnd (.bin .BitOr (.value (.var 8)) (.mask (.var 8))) (.bin .Sub (.var 9) (.int 1))) (.int 0))]
noncomputable def l_Tnum_is_aligned : List Nat := [8, 9]
noncomputable def g_Tnum_is_aligned : List Nat := []
/-- Tnum_free_bits(self) -/
noncomputable def b_Tnum_free_bits : List S := [
  .ownNil 10 11 (.mask (.var 8)),
  .whileS (.cmp .Gt (.var 11) (.int 0)) [
    .append 10 (.bin .Sub (.call 16 [(.bin .BitAnd (.var 11) (.neg (.var 11)))]) (.int 1)),
    .assign 11 (.bin .BitAnd (.var 11) (.bin .Sub (.var 11) (.int 1)))],
  .freeze 10,
  .ret (.var 10)]
noncomputable def l_Tnum_free_bits : List Nat := [8, 10, 11]
noncomputable def g_Tnum_free_bits : List Nat := [16]
/-- Tnum_told(self) -/
noncomputable def b_Tnum_told : List S := [
  .ret (.tup [(.value (.var 8)), (.mask (.var 8))])]
noncomputable def l_Tnum_told : List Nat := [8]
noncomputable def g_Tnum_told : List Nat := []
/-- without(value, mask) -/
noncomputable def b_without : List S := [
  .assign 5 (.call 14 [(.var 13)]),
  .assign 2 (.call 14 [(.var 12)]),
  .ret (.call 12 [(.bin .Sub (.var 2) (.bin .BitAnd (.var 2) (.var 5))), (.var 5)])]
noncomputable def l_without : List Nat := [12, 13, 5, 2]
noncomputable def g_without : List Nat := [14, 12]
/-- tnum_add(a, b) -/
noncomputable def b_tnum_add : List S := [
  .assign 14 (.bin .Add (.value (.var 16)) (.value (.var 17))),
  .assign 15 (.bin .Add (.bin .Add (.var 14) (.mask (.var 16))) (.mask (.var 17))),
  .ret (.call 29 [(.var 14), (.bin .BitOr (.bin .BitOr (.bin .BitXor (.var 14) (.var 15)) (.mask (.var 16))) (.mask (.var 17)))])]
noncomputable def l_tnum_add : List Nat := [16, 17, 14, 15]
noncomputable def g_tnum_add : List Nat := [29]
/-- tnum_sub(a, b) -/
noncomputable def b_tnum_sub : List S := [
  .assign 14 (.bin .Sub (.value (.var 16)) (.value (.var 17))),
  .assignT [15, 18] [(.bin .Add (.var 14) (.mask (.var 16))), (.bin .Sub (.var 14) (.mask (.var 17)))],
  .ret (.call 29 [(.var 14), (.bin .BitOr (.bin .BitOr (.bin .BitXor (.var 15) (.var 18)) (.mask (.var 16))) (.mask (.var 17)))])]
noncomputable def l_tnum_sub : List Nat := [16, 17, 14, 15, 18]
noncomputable def g_tnum_sub : List Nat := [29]
/-- tnum_neg(a) -/
noncomputable def b_tnum_neg : List S := [
  .ret (.call 31 [(.call 12 [(.int 0), (.int 0)]), (.var 16)])]
noncomputable def l_tnum_neg : List Nat := [16]
noncomputable def g_tnum_neg : List Nat := [31, 12]
/-- tnum_and(a, b) -/
noncomputable def b_tnum_and : List S := [
  .assign 12 (.bin .BitAnd (.value (.var 16)) (.value (.var 17))),
  .ret (.call 29 [(.var 12), (.bin .BitAnd (.bin .BitAnd (.bin .BitOr (.value (.var 16)) (.mask (.var 16))) (.bin .BitOr (.value (.var 17)) (.mask (.var 17)))) (.bin .BitXor (.gint 10) (.var 12)))])]
noncomputable def l_tnum_and : List Nat := [16, 17, 12]
noncomputable def g_tnum_and : List Nat := [29, 10]
/-- tnum_or(a, b) -/
noncomputable def b_tnum_or : List S := [
  .assign 12 (.bin .BitOr (.value (.var 16)) (.value (.var 17))),
  .ret (.call 12 [(.var 12), (.bin .BitAnd (.bin .BitOr (.mask (.var 16)) (.mask (.var 17))) (.bin .BitXor (.gint 10) (.var 12)))])]
noncomputable def l_tnum_or : List Nat := [16, 17, 12]
noncomputable def g_tnum_or : List Nat := [12, 10]
/-- tnum_xor(a, b) -/
noncomputable def b_tnum_xor : List S := [
  .ret (.call 29 [(.bin .BitXor (.value (.var 16)) (.value (.var 17))), (.bin .BitOr (.mask (.var 16)) (.mask (.var 17)))])]
noncomputable def l_tnum_xor : List Nat := [16, 17]
noncomputable def g_tnum_xor : List Nat := [29]
/-- tnum_lsh(a, n) -/
noncomputable def b_tnum_lsh : List S := [
  .ret (.call 12 [(.call 14 [(.bin .LShift (.value (.var 16)) (.var 19))]), (.call 14 [(.bin .LShift (.mask (.var 16)) (.var 19))])])]
noncomputable def l_tnum_lsh : List Nat := [16, 19]
noncomputable def g_tnum_lsh : List Nat := [12, 14]
/-- tnum_rsh(a, n) -/
noncomputable def b_tnum_rsh : List S := [
  .ret (.call 12 [(.bin .RShift (.value (.var 16)) (.var 19)), (.bin .RShift (.mask (.var 16)) (.var 19))])]
noncomputable def l_tnum_rsh : List Nat := [16, 19]
noncomputable def g_tnum_rsh : List Nat := [12]
/-- tnum_arsh(a, n, size) -/
noncomputable def b_tnum_arsh : List S := [
  .ret (.call 12 [(.call 14 [(.bin .RShift (.call 15 [(.value (.var 16)), (.var 0)]) (.var 19)), (.var 0)]), (.call 14 [(.bin .RShift (.call 15 [(.mask (.var 16)), (.var 0)]) (.var 19)), (.var 0)])])]
noncomputable def l_tnum_arsh : List Nat := [16, 19, 0]
noncomputable def g_tnum_arsh : List Nat := [12, 14, 15]
/-- zeros_below(a) -/
noncomputable def b_zeros_below : List S := [
  .assign 20 (.bin .BitOr (.value (.var 16)) (.mask (.var 16))),
  .ret (.ite (.cmp .Eq (.var 20) (.int 0)) (.int 64) (.bin .Sub (.call 16 [(.bin .BitAnd (.var 20) (.neg (.var 20)))]) (.int 1)))]
noncomputable def l_zeros_below : List Nat := [16, 20]
noncomputable def g_zeros_below : List Nat := [16]
/-- tnum_mul(a, b) -/
noncomputable def b_tnum_mul : List S := [
  .ifS (.meth 21 (.var 17) []) [
    .assignT [16, 17] [(.var 17), (.var 16)]] [
    ],
  .ifS (.andE [(.notE (.meth 21 (.var 16) [])), (.orE [(.cmp .Eq (.mask (.var 16)) (.gint 10)), (.cmp .Eq (.mask (.var 17)) (.gint 10))])]) [
    .assign 2 (.bin .Add (.call 39 [(.var 16)]) (.call 39 [(.var 17)])),
    .ret (.ite (.cmp .Gt (.var 2) (.int 63)) (.call 12 [(.int 0), (.int 0)]) (.call 36 [(.static 18 []), (.var 2)]))] [
    ],
  .assign 10 (.call 12 [(.int 0), (.int 0)]),
  .assign 11 (.bin .BitOr (.value (.var 16)) (.mask (.var 16))),
  .whileS (.cmp .Gt (.var 11) (.int 0)) [
    .assign 4 (.bin .BitAnd (.var 11) (.neg (.var 11))),
    .assign 5 (.ite (.bin .BitAnd (.value (.var 16)) (.var 4)) (.mask (.var 17)) (.bin .BitOr (.value (.var 17)) (.mask (.var 17)))),
    .ifS (.cmp .Gt (.var 5) (.int 0)) [
      .assign 10 (.call 30 [(.var 10), (.call 12 [(.int 0), (.call 14 [(.bin .Mult (.var 5) (.var 4))])])])] [
      ],
    .assign 11 (.bin .Sub (.var 11) (.var 4))],
  .ret (.call 30 [(.static 17 [(.bin .Mult (.value (.var 16)) (.value (.var 17)))]), (.var 10)])]
noncomputable def l_tnum_mul : List Nat := [16, 17, 2, 10, 11, 4, 5]
noncomputable def g_tnum_mul : List Nat := [10, 39, 12, 36, 30, 14]
/-- tnum_meet(a, b) -/
noncomputable def b_tnum_meet : List S := [
  .ifS (.bin .BitAnd (.bin .BitXor (.value (.var 16)) (.value (.var 17))) (.bin .BitXor (.gint 10) (.bin .BitOr (.mask (.var 16)) (.mask (.var 17))))) [
    .ret .none] [
    ],
  .ret (.call 29 [(.bin .BitOr (.value (.var 16)) (.value (.var 17))), (.bin .BitAnd (.mask (.var 16)) (.mask (.var 17)))])]
noncomputable def l_tnum_meet : List Nat := [16, 17]
noncomputable def g_tnum_meet : List Nat := [10, 29]
/-- tnum_join(a, b) -/
noncomputable def b_tnum_join : List S := [
  .ret (.call 29 [(.value (.var 16)), (.bin .BitOr (.bin .BitOr (.mask (.var 16)) (.mask (.var 17))) (.bin .BitXor (.value (.var 16)) (.value (.var 17))))])]
noncomputable def l_tnum_join : List Nat := [16, 17]
noncomputable def g_tnum_join : List Nat := [29]
/-- tnum_within(a, b) -/
noncomputable def b_tnum_within : List S := [
  .ret (.andE [(.cmp .Eq (.bin .BitOr (.mask (.var 16)) (.mask (.var 17))) (.mask (.var 17))), (.meth 20 (.var 17) [(.value (.var 16))])])]
noncomputable def l_tnum_within : List Nat := [16, 17]
noncomputable def g_tnum_within : List Nat := []
/-- tnum_cast(a, width) -/
noncomputable def b_tnum_cast : List S := [
  .assign 21 (.call 13 [(.bin .Mult (.int 8) (.var 9))]),
  .ret (.call 12 [(.bin .BitAnd (.value (.var 16)) (.var 21)), (.bin .BitAnd (.mask (.var 16)) (.var 21))])]
noncomputable def l_tnum_cast : List Nat := [16, 9, 21]
noncomputable def g_tnum_cast : List Nat := [13, 12]
/-- tnum_low32(a) -/
noncomputable def b_tnum_low32 : List S := [
  .ret (.call 12 [(.bin .BitAnd (.value (.var 16)) (.gint 11)), (.bin .BitAnd (.mask (.var 16)) (.gint 11))])]
noncomputable def l_tnum_low32 : List Nat := [16]
noncomputable def g_tnum_low32 : List Nat := [12, 11]
/-- tnum_with_low32(a, low) -/
noncomputable def b_tnum_with_low32 : List S := [
  .ret (.call 12 [(.bin .Add (.bin .Sub (.value (.var 16)) (.bin .BitAnd (.value (.var 16)) (.gint 11))) (.bin .BitAnd (.value (.var 2)) (.gint 11))), (.bin .Add (.bin .Sub (.mask (.var 16)) (.bin .BitAnd (.mask (.var 16)) (.gint 11))) (.bin .BitAnd (.mask (.var 2)) (.gint 11)))])]
noncomputable def l_tnum_with_low32 : List Nat := [16, 2]
noncomputable def g_tnum_with_low32 : List Nat := [12, 11]
/-- tnum_signed(a, size) -/
noncomputable def b_tnum_signed : List S := [
  .ret (.call 12 [(.call 14 [(.call 15 [(.value (.var 16)), (.var 0)])]), (.call 14 [(.call 15 [(.mask (.var 16)), (.var 0)])])])]
noncomputable def l_tnum_signed : List Nat := [16, 0]
noncomputable def g_tnum_signed : List Nat := [12, 14, 15]
/-- tnum_turned(a, width) -/
noncomputable def b_tnum_turned : List S := [
  .assignT [12, 13] [(.int 0), (.int 0)],
  .forS false [22] (.call 7 [(.var 9)]) [
    .assign 12 (.bin .BitOr (.bin .LShift (.var 12) (.int 8)) (.bin .BitAnd (.bin .RShift (.value (.var 16)) (.bin .Mult (.int 8) (.var 22))) (.int 255))),
    .assign 13 (.bin .BitOr (.bin .LShift (.var 13) (.int 8)) (.bin .BitAnd (.bin .RShift (.mask (.var 16)) (.bin .Mult (.int 8) (.var 22))) (.int 255)))],
  .ret (.call 12 [(.var 12), (.var 13)])]
noncomputable def l_tnum_turned : List Nat := [16, 9, 12, 13, 22]
noncomputable def g_tnum_turned : List Nat := [7, 12]
/-- _law_all() -/
noncomputable def b_law_all : List S := [
  .ret (.bin .LShift (.int 1) (.int 64))]
noncomputable def l_law_all : List Nat := []
noncomputable def g_law_all : List Nat := []
/-- _law_half() -/
noncomputable def b_law_half : List S := [
  .ret (.bin .LShift (.int 1) (.int 32))]
noncomputable def l_law_half : List Nat := []
noncomputable def g_law_half : List Nat := []
/-- _law_pen(script) -/
noncomputable def b_law_pen : List S := [
  .ret (.list [(.comp (.call 0 [(.var 23)]) false [23] (.upto (.var 24) 40) Option.none [] [0]), (.int 0), (.int 0)])]
noncomputable def l_law_pen : List Nat := [24]
noncomputable def g_law_pen : List Nat := []
/-- _law_draw(pen, many) -/
noncomputable def b_law_draw : List S := [
  .ifS (.cmp .Gt (.penAt (.var 29) 2) (.int 0)) [
    .assign 27 (.bin .Mod (.call 0 [(.penAt (.var 29) 2)]) (.var 30)),
    .setPen 29 2 (.bin .FloorDiv (.call 0 [(.penAt (.var 29) 2)]) (.var 30)),
    .ret (.var 27)] [
    ],
  .assign 25 (.penAt (.var 29) 1),
  .setPen 29 1 (.bin .Add (.var 25) (.int 1)),
  .assign 23 (.bin .Add (.bin .Add (.bin .Mult (.int 32203) (.var 25)) (.int 6607)) (.bin .Mod (.call 0 [(.call 2 [(.upto (.penAt (.var 29) 0) 1)])]) (.int 1000003))),
  .ifS (.cmp .NotEq (.penAt (.var 29) 0) (.list [])) [
    .assign 23 (.idx (.penAt (.var 29) 0) (.bin .Mod (.call 0 [(.var 25)]) (.call 1 [(.penAt (.var 29) 0)])))] [
    ],
  .ifS (.andE [(.cmp .Lt (.var 25) (.call 1 [(.penAt (.var 29) 0)])), (.cmp .GtE (.call 3 [(.var 23)]) (.bin .Pow (.int 10) (.int 18)))]) [
    .assign 28 (.bin .Add (.bin .Mult (.int 2) (.bin .Sub (.call 3 [(.var 23)]) (.bin .Pow (.int 10) (.int 18)))) (.call 0 [(.cmp .Lt (.var 23) (.int 0))])),
    .setPen 29 2 (.bin .FloorDiv (.call 0 [(.var 28)]) (.var 30)),
    .ret (.bin .Mod (.call 0 [(.var 28)]) (.var 30))] [
    ],
  .assign 26 (.bin .Mod (.call 0 [(.bin .Pow (.bin .Add (.bin .Add (.bin .Mod (.call 0 [(.var 23)]) (.int 2147483587)) (.bin .Mult (.int 32203) (.var 25))) (.int 6607)) (.int 5))]) (.int 2147483629)),
  .assign 26 (.bin .Mod (.call 0 [(.bin .Pow (.bin .Add (.bin .Add (.bin .Mult (.var 26) (.bin .Add (.bin .Mult (.int 2) (.var 25)) (.int 7589))) (.bin .Mult (.bin .Mult (.int 32203) (.var 25)) (.var 25))) (.int 71)) (.int 3))]) (.int 2147483579)),
  .ret (.bin .Mod (.call 0 [(.bin .FloorDiv (.var 26) (.int 32))]) (.var 30))]
noncomputable def l_law_draw : List Nat := [29, 30, 27, 25, 23, 28, 26]
noncomputable def g_law_draw : List Nat := [0, 2, 1, 3]
/-- _law_pick(pen, some) -/
noncomputable def b_law_pick : List S := [
  .ret (.idx (.var 31) (.call 52 [(.var 29), (.call 1 [(.var 31)])]))]
noncomputable def l_law_pick : List Nat := [29, 31]
noncomputable def g_law_pick : List Nat := [52, 1]
/-- _law_worth(pen) -/
noncomputable def b_law_worth : List S := [
  .assign 32 (.call 52 [(.var 29), (.int 3)]),
  .ifS (.cmp .Eq (.var 32) (.int 0)) [
    .ret (.call 53 [(.var 29), (.list [(.int 0), (.int 1), (.bin .Sub (.call 49 []) (.int 1)), (.bin .FloorDiv (.call 49 []) (.int 2)), (.bin .Sub (.bin .FloorDiv (.call 49 []) (.int 2)) (.int 1)), (.bin .Sub (.call 50 []) (.int 1)), (.call 50 []), (.bin .FloorDiv (.call 50 []) (.int 2))])])] [
    ],
  .ifS (.cmp .Eq (.var 32) (.int 1)) [
    .ret (.call 52 [(.var 29), (.int 256)])] [
    ],
  .assign 1 (.int 0),
  .forS false [33] (.call 7 [(.int 4)]) [
    .assign 1 (.bin .Add (.bin .Mult (.var 1) (.int 65536)) (.call 52 [(.var 29), (.int 65536)]))],
  .ret (.var 1)]
noncomputable def l_law_worth : List Nat := [29, 32, 1, 33]
noncomputable def g_law_worth : List Nat := [52, 53, 49, 50, 7]
/-- _law_pair(pen, near) -/
noncomputable def b_law_pair : List S := [
  .assignT [13, 35] [(.int 0), (.call 52 [(.var 29), (.int 64)])],
  .assign 34 (.cmp .Eq (.call 52 [(.var 29), (.int 2)]) (.int 0)),
  .forS false [33] (.call 7 [(.call 52 [(.var 29), (.int 4)])]) [
    .assign 36 (.ite (.var 34) (.bin .Mod (.bin .Add (.var 35) (.var 33)) (.int 64)) (.call 52 [(.var 29), (.int 64)])),
    .assign 13 (.bin .BitOr (.var 13) (.bin .LShift (.int 1) (.var 36)))],
  .assign 1 (.ite (.cmp .Lt (.var 37) (.int 0)) (.call 54 [(.var 29)]) (.var 37)),
  .ret (.tup [(.bin .BitAnd (.var 1) (.bin .Sub (.bin .Sub (.call 49 []) (.int 1)) (.var 13))), (.var 13)])]
noncomputable def l_law_pair : List Nat := [29, 37, 13, 35, 34, 33, 36, 1]
noncomputable def g_law_pair : List Nat := [52, 7, 54, 49]
/-- _law_members(pair) -/
noncomputable def b_law_members : List S := [
  .assignT [10, 11] [(.list [(.idx (.var 39) (.int 0))]), (.idx (.var 39) (.int 1))],
  .forS false [36] (.call 7 [(.int 64)]) [
    .ifS (.cmp .Eq (.bin .Mod (.var 11) (.int 2)) (.int 1)) [
      .assign 10 (.bin .Add (.var 10) (.comp (.bin .Add (.var 38) (.bin .Pow (.int 2) (.var 36))) false [38] (.var 10) Option.none [36] []))] [
      ],
    .assign 11 (.bin .FloorDiv (.var 11) (.int 2))],
  .ret (.var 10)]
noncomputable def l_law_members : List Nat := [39, 10, 11, 36]
noncomputable def g_law_members : List Nat := [7]
/-- _law_best(some) -/
noncomputable def b_law_best : List S := [
  .assignT [2, 40] [(.idx (.var 31) (.int 0)), (.idx (.var 31) (.int 0))],
  .forS false [38] (.var 31) [
    .assignT [2, 40] [(.bin .BitAnd (.var 2) (.var 38)), (.bin .BitOr (.var 40) (.var 38))]],
  .ret (.tup [(.var 2), (.bin .Sub (.var 40) (.var 2))])]
noncomputable def l_law_best : List Nat := [31, 2, 40, 38]
noncomputable def g_law_best : List Nat := []
/-- _law_signed(worth, size) -/
noncomputable def b_law_signed : List S := [
  .assign 2 (.bin .Mod (.var 1) (.bin .Pow (.int 2) (.var 0))),
  .ret (.ite (.cmp .GtE (.var 2) (.bin .Pow (.int 2) (.bin .Sub (.var 0) (.int 1)))) (.bin .Sub (.var 2) (.bin .Pow (.int 2) (.var 0))) (.var 2))]
noncomputable def l_law_signed : List Nat := [1, 0, 2]
noncomputable def g_law_signed : List Nat := []
/-- _law_turned(worth, width) -/
noncomputable def b_law_turned : List S := [
  .ret (.call 2 [(.comp (.bin .Mult (.bin .Mod (.bin .FloorDiv (.var 1) (.bin .Pow (.int 256) (.var 22))) (.int 256)) (.bin .Pow (.int 256) (.bin .Sub (.bin .Sub (.var 9) (.int 1)) (.var 22)))) false [22] (.call 7 [(.var 9)]) Option.none [1, 9] [])])]
noncomputable def l_law_turned : List Nat := [1, 9]
noncomputable def g_law_turned : List Nat := [2, 7]
/-- _law_two_right(one, other, ones_of, others) -/
noncomputable def b_law_two_right : List S := [
  .assign 41 (.comp2 (.tup [(.var 45), (.var 46)]) 45 (.var 49) 46 (.var 50) [50] []),
  .own 42 (.list [(.tup [(.call 30 [(.var 38), (.var 48)]), (.comp (.bin .Mod (.bin .Add (.var 45) (.var 46)) (.call 49 [])) true [45, 46] (.var 41) Option.none [] [49])])]),
  .append 42 (.tup [(.call 31 [(.var 38), (.var 48)]), (.comp (.bin .Mod (.bin .Sub (.var 45) (.var 46)) (.call 49 [])) true [45, 46] (.var 41) Option.none [] [49])]),
  .freeze 42,
  .own 42 (.bin .Add (.var 42) (.list [(.tup [(.call 33 [(.var 38), (.var 48)]), (.comp (.bin .BitAnd (.var 45) (.var 46)) true [45, 46] (.var 41) Option.none [] [])]), (.tup [(.call 34 [(.var 38), (.var 48)]), (.comp (.bin .BitOr (.var 45) (.var 46)) true [45, 46] (.var 41) Option.none [] [])])])),
  .freeze 42,
  .own 42 (.bin .Add (.var 42) (.list [(.tup [(.call 35 [(.var 38), (.var 48)]), (.comp (.bin .BitXor (.var 45) (.var 46)) true [45, 46] (.var 41) Option.none [] [])]), (.tup [(.call 42 [(.var 38), (.var 48)]), (.bin .Add (.var 49) (.var 50))])])),
  .append 42 (.tup [(.call 46 [(.var 38), (.var 48)]), (.comp (.bin .Add (.bin .Sub (.var 45) (.bin .Mod (.var 45) (.call 50 []))) (.bin .Mod (.var 46) (.call 50 []))) true [45, 46] (.var 41) Option.none [] [50])]),
  .freeze 42,
  .ifS (.notE (.call 6 [(.comp (.cmp .Eq (.meth 28 (.var 43) []) (.call 57 [(.var 47)])) true [43, 47] (.var 42) Option.none [] [57])])) [
    .ret (.bool false)] [
    ],
  .assignT [44, 10] [(.comp (.var 45) false [45] (.var 49) (some (.cmp .In (.var 45) (.var 50))) [50] []), (.call 41 [(.var 38), (.var 48)])],
  .ifS (.orE [(.cmp .NotEq (.isNone (.var 10)) (.cmp .Eq (.var 44) (.list []))), (.andE [(.cmp .NotEq (.var 44) (.list [])), (.cmp .NotEq (.meth 28 (.var 10) []) (.call 57 [(.var 44)]))])]) [
    .ret (.bool false)] [
    ],
  .ifS (.cmp .NotEq (.call 43 [(.var 38), (.var 48)]) (.cmp .Eq (.call 1 [(.var 44)]) (.call 1 [(.var 49)]))) [
    .ret (.bool false)] [
    ],
  .assign 43 (.call 40 [(.var 38), (.var 48)]),
  .ifS (.orE [(.cmp .NotEq (.bin .BitAnd (.value (.var 43)) (.mask (.var 43))) (.int 0)), (.notE (.cmp2 .LtE (.int 0) (.value (.var 43)) .Lt (.call 49 []))), (.notE (.cmp2 .LtE (.int 0) (.mask (.var 43)) .Lt (.call 49 [])))]) [
    .ret (.bool false)] [
    ],
  .ret (.call 6 [(.comp (.meth 20 (.var 43) [(.bin .Mod (.bin .Mult (.var 45) (.var 46)) (.call 49 []))]) true [45, 46] (.var 41) Option.none [43] [49])])]
noncomputable def l_law_two_right : List Nat := [38, 48, 49, 50, 41, 42, 44, 10, 43]
noncomputable def g_law_two_right : List Nat := [30, 31, 33, 34, 35, 42, 46, 6, 41, 57, 43, 1, 40, 49]
/-- _law_one_right(pen, one, some) -/
noncomputable def b_law_one_right : List S := [
  .assignT [3, 51, 9, 0] [(.call 52 [(.var 29), (.int 64)]), (.call 52 [(.var 29), (.int 32)]), (.call 53 [(.var 29), (.list [(.int 1), (.int 2), (.int 4), (.int 8)])]), (.call 53 [(.var 29), (.list [(.int 8), (.int 16), (.int 32)])])],
  .own 42 (.list [(.tup [(.call 32 [(.var 38)]), (.comp (.bin .Mod (.bin .Sub (.int 0) (.var 45)) (.call 49 [])) false [45] (.var 31) Option.none [] [49])]), (.tup [(.call 36 [(.var 38), (.var 3)]), (.comp (.bin .Mod (.bin .Mult (.var 45) (.bin .Pow (.int 2) (.var 3))) (.call 49 [])) false [45] (.var 31) Option.none [3] [49])])]),
  .append 42 (.tup [(.call 37 [(.var 38), (.var 3)]), (.comp (.bin .FloorDiv (.var 45) (.bin .Pow (.int 2) (.var 3))) false [45] (.var 31) Option.none [3] [])]),
  .append 42 (.tup [(.call 38 [(.var 38), (.var 3)]), (.comp (.bin .Mod (.bin .FloorDiv (.call 58 [(.var 45), (.int 64)]) (.bin .Pow (.int 2) (.var 3))) (.call 49 [])) false [45] (.var 31) Option.none [3] [58, 49])]),
  .append 42 (.tup [(.call 38 [(.var 38), (.var 51), (.int 32)]), (.comp (.bin .Mod (.bin .FloorDiv (.call 58 [(.var 45), (.int 32)]) (.bin .Pow (.int 2) (.var 51))) (.call 50 [])) false [45] (.var 31) Option.none [51] [58, 50])]),
  .freeze 42,
  .own 42 (.bin .Add (.var 42) (.list [(.tup [(.call 44 [(.var 38), (.var 9)]), (.comp (.bin .Mod (.var 45) (.bin .Pow (.int 256) (.var 9))) false [45] (.var 31) Option.none [9] [])]), (.tup [(.call 45 [(.var 38)]), (.comp (.bin .Mod (.var 45) (.call 50 [])) false [45] (.var 31) Option.none [] [50])])])),
  .append 42 (.tup [(.call 47 [(.var 38), (.var 0)]), (.comp (.bin .Mod (.call 58 [(.var 45), (.var 0)]) (.call 49 [])) false [45] (.var 31) Option.none [0] [58, 49])]),
  .append 42 (.tup [(.call 48 [(.var 38), (.var 9)]), (.comp (.call 59 [(.var 45), (.var 9)]) false [45] (.var 31) Option.none [9] [59])]),
  .freeze 42,
  .ret (.call 6 [(.comp (.cmp .Eq (.meth 28 (.var 43) []) (.call 57 [(.var 47)])) true [43, 47] (.var 42) Option.none [] [57])])]
noncomputable def l_law_one_right : List Nat := [29, 38, 31, 3, 51, 9, 0, 42]
noncomputable def g_law_one_right : List Nat := [52, 53, 32, 36, 37, 38, 44, 45, 47, 48, 6]
/-- _law_ends_right(pen, one, some) -/
noncomputable def b_law_ends_right : List S := [
  .ifS (.cmp .NotEq (.tup [(.meth 22 (.var 38) []), (.meth 23 (.var 38) []), (.meth 21 (.var 38) [])]) (.tup [(.call 4 [(.var 31)]), (.call 5 [(.var 31)]), (.cmp .Eq (.call 1 [(.var 31)]) (.int 1))])) [
    .ret (.bool false)] [
    ],
  .forS false [0] (.list [(.int 32), (.int 64)]) [
    .assign 43 (.comp (.call 58 [(.var 45), (.var 0)]) false [45] (.var 31) Option.none [0] [58]),
    .ifS (.cmp .NotEq (.tup [(.meth 24 (.var 38) [(.var 0)]), (.meth 25 (.var 38) [(.var 0)])]) (.tup [(.call 4 [(.var 43)]), (.call 5 [(.var 43)])])) [
      .ret (.bool false)] [
      ]],
  .assignT [9, 52] [(.bin .Pow (.int 2) (.call 52 [(.var 29), (.int 8)])), (.call 54 [(.var 29)])],
  .ifS (.cmp .NotEq (.meth 26 (.var 38) [(.var 9)]) (.call 6 [(.comp (.cmp .Eq (.bin .Mod (.var 45) (.var 9)) (.int 0)) false [45] (.var 31) Option.none [9] [])])) [
    .ret (.bool false)] [
    ],
  .ifS (.orE [(.cmp .NotEq (.comp (.var 45) false [45] (.var 31) (some (.notE (.meth 20 (.var 38) [(.var 45)]))) [38] []) (.list [])), (.cmp .NotEq (.meth 20 (.var 38) [(.var 52)]) (.cmp .In (.var 52) (.var 31)))]) [
    .ret (.bool false)] [
    ],
  .ret (.cmp .Eq (.comp (.bin .Pow (.int 2) (.var 36)) false [36] (.meth 27 (.var 38) []) Option.none [] []) (.call 9 [(.comp (.bin .Sub (.var 45) (.idx (.var 31) (.int 0))) false [45] (.var 31) (some (.andE [(.cmp .Eq (.bin .BitAnd (.bin .Sub (.var 45) (.idx (.var 31) (.int 0))) (.bin .Sub (.bin .Sub (.var 45) (.idx (.var 31) (.int 0))) (.int 1))) (.int 0)), (.cmp .NotEq (.var 45) (.idx (.var 31) (.int 0)))])) [31] [])]))]
noncomputable def l_law_ends_right : List Nat := [29, 38, 31, 0, 43, 9, 52]
noncomputable def g_law_ends_right : List Nat := [4, 5, 1, 52, 54, 6, 9]
/-- _law_span_right(pen) -/
noncomputable def b_law_span_right : List S := [
  .assignT [6, 48] [(.call 54 [(.var 29)]), (.call 54 [(.var 29)])],
  .assign 7 (.call 4 [(.bin .Add (.var 6) (.call 52 [(.var 29), (.int 24)])), (.bin .Sub (.call 49 []) (.int 1))]),
  .ifS (.cmp .NotEq (.meth 28 (.static 19 [(.var 6), (.var 7)]) []) (.call 57 [(.call 8 [(.call 7 [(.var 6), (.bin .Add (.var 7) (.int 1))])])])) [
    .ret (.bool false)] [
    ],
  .assignT [2, 40, 4] [(.call 4 [(.var 6), (.var 48)]), (.call 5 [(.var 6), (.var 48)]), (.int 1)],
  .whileS (.cmp .NotEq (.bin .FloorDiv (.var 2) (.var 4)) (.bin .FloorDiv (.var 40) (.var 4))) [
    .assign 4 (.bin .Mult (.int 2) (.var 4))],
  .ret (.andE [(.cmp .Eq (.meth 28 (.static 19 [(.var 2), (.var 40)]) []) (.tup [(.bin .Mult (.bin .FloorDiv (.var 2) (.var 4)) (.var 4)), (.bin .Sub (.var 4) (.int 1))])), (.cmp .Eq (.meth 28 (.static 18 []) []) (.tup [(.int 0), (.bin .Sub (.call 49 []) (.int 1))]))])]
noncomputable def l_law_span_right : List Nat := [29, 6, 48, 7, 2, 40, 4]
noncomputable def g_law_span_right : List Nat := [54, 4, 52, 49, 12, 57, 8, 7, 5]
/-- law(script) -/
noncomputable def b_law : List S := [
  .assign 29 (.call 51 [(.var 24)]),
  .assign 53 (.call 55 [(.var 29), (.neg (.int 1))]),
  .assign 31 (.call 56 [(.var 53)]),
  .assign 54 (.call 55 [(.var 29), (.ite (.cmp .Eq (.call 52 [(.var 29), (.int 2)]) (.int 0)) (.call 53 [(.var 29), (.var 31)]) (.neg (.int 1)))]),
  .assignT [38, 48] [(.call 12 [(.idx (.var 53) (.int 0)), (.idx (.var 53) (.int 1))]), (.call 12 [(.idx (.var 54) (.int 0)), (.idx (.var 54) (.int 1))])],
  .ifS (.orE [(.notE (.call 60 [(.var 38), (.var 48), (.var 31), (.call 56 [(.var 54)])])), (.notE (.call 61 [(.var 29), (.var 38), (.var 31)]))]) [
    .ret (.bool false)] [
    ],
  .ifS (.orE [(.notE (.call 62 [(.var 29), (.var 38), (.var 31)])), (.notE (.call 63 [(.var 29)]))]) [
    .ret (.bool false)] [
    ],
  .assign 55 (.call 54 [(.var 29)]),
  .ret (.andE [(.cmp .Eq (.meth 28 (.static 17 [(.var 55)]) []) (.tup [(.var 55), (.int 0)])), (.cmp .Eq (.meth 28 (.var 38) []) (.var 53)), (.cmp .Eq (.meth 28 (.var 48) []) (.var 54))])]
noncomputable def l_law : List Nat := [24, 29, 53, 31, 54, 38, 48, 55]
noncomputable def g_law : List Nat := [51, 55, 56, 52, 53, 12, 60, 61, 62, 63, 54]
end Mine

set_option autoImplicit false
namespace Mine
open PySem

theorem via {P : Prop} (k : ∀ G : Prop, (P → G) → G) : P := k P id
theorem no {P : Prop} (h : false = true) : P := Bool.noConfusion h
theorem dsplit {c : Prop} [Decidable c] {t : c → Bool} {M : Prop} (h : (if h : c then t h else false) = true) (k : ∀ q, t q = true → M) : M := by
  by_cases q : c
  · rw [dif_pos q] at h; exact k q h
  · rw [dif_neg q] at h; exact no h
noncomputable def onNil {α : Type} (b : Bool) : List α → Bool
  | [] => b
  | _ :: _ => false
noncomputable def onCons {α : Type} (f : α → List α → Bool) : List α → Bool
  | [] => false
  | a :: r => f a r
noncomputable def on1 {α : Type} (f : α → Bool) : List α → Bool := onCons fun a => onNil (f a)
noncomputable def on2 {α : Type} (f : α → α → Bool) : List α → Bool := onCons fun a => on1 (f a)
noncomputable def onNone {α : Type} (b : Bool) : Option α → Bool
  | none => b
  | some _ => false
noncomputable def onSome {α : Type} (f : α → Bool) : Option α → Bool
  | none => false
  | some a => f a
section
variable {α : Type}
theorem inNil {b : Bool} {M : List α → Prop} (k : b = true → M []) : ∀ {l : List α}, onNil b l = true → M l
  | [], h => k h
  | _ :: _, h => no h
theorem inCons {f : α → List α → Bool} {M : List α → Prop} (k : ∀ a r, f a r = true → M (a :: r)) : ∀ {l : List α}, onCons f l = true → M l
  | [], h => no h
  | a :: r, h => k a r h
theorem in1 {f : α → Bool} {M : List α → Prop} (k : ∀ a, f a = true → M [a]) {l : List α} (h : on1 f l = true) : M l :=
  inCons (M := M) (fun a _ h => inNil (M := fun r => M (a :: r)) (k a) h) h
theorem in2 {f : α → α → Bool} {M : List α → Prop} (k : ∀ a b, f a b = true → M [a, b]) {l : List α} (h : on2 f l = true) : M l :=
  inCons (M := M) (fun a _ h => in1 (M := fun r => M (a :: r)) (k a) h) h
theorem inNone {b : Bool} {M : Option α → Prop} (k : b = true → M none) : ∀ {l : Option α}, onNone b l = true → M l
  | none, h => k h
  | some _, h => no h
theorem inSome {f : α → Bool} {M : Option α → Prop} (k : ∀ a, f a = true → M (some a)) : ∀ {l : Option α}, onSome f l = true → M l
  | none, h => no h
  | some a, h => k a h
end

noncomputable def onBoolOp (f : BoolOp → (List PySem.Expr) → Pos → Bool) (x : PySem.Expr) : Bool := if h : x.ctorIdx = 0 then PySem.Expr.BoolOp.elim (motive_1 := fun _ => Bool) x h f else false
theorem inBoolOp {f : BoolOp → (List PySem.Expr) → Pos → Bool} {M : PySem.Expr → Prop} (k : ∀ a b c, f a b c = true → M (.BoolOp a b c)) {x : PySem.Expr} (h : onBoolOp f x = true) : M x :=
  dsplit h fun q h => PySem.Expr.BoolOp.elim (motive_1 := fun x => ∀ q, PySem.Expr.BoolOp.elim (motive_1 := fun _ => Bool) x q f = true → M x) x q (fun a b c _ h => k a b c h) q h
noncomputable def onBinOp (f : PySem.Expr → Operator → PySem.Expr → Pos → Bool) (x : PySem.Expr) : Bool := if h : x.ctorIdx = 2 then PySem.Expr.BinOp.elim (motive_1 := fun _ => Bool) x h f else false
theorem inBinOp {f : PySem.Expr → Operator → PySem.Expr → Pos → Bool} {M : PySem.Expr → Prop} (k : ∀ a b c d, f a b c d = true → M (.BinOp a b c d)) {x : PySem.Expr} (h : onBinOp f x = true) : M x :=
  dsplit h fun q h => PySem.Expr.BinOp.elim (motive_1 := fun x => ∀ q, PySem.Expr.BinOp.elim (motive_1 := fun _ => Bool) x q f = true → M x) x q (fun a b c d _ h => k a b c d h) q h
noncomputable def onUnaryOp (f : UnaryOp → PySem.Expr → Pos → Bool) (x : PySem.Expr) : Bool := if h : x.ctorIdx = 3 then PySem.Expr.UnaryOp.elim (motive_1 := fun _ => Bool) x h f else false
theorem inUnaryOp {f : UnaryOp → PySem.Expr → Pos → Bool} {M : PySem.Expr → Prop} (k : ∀ a b c, f a b c = true → M (.UnaryOp a b c)) {x : PySem.Expr} (h : onUnaryOp f x = true) : M x :=
  dsplit h fun q h => PySem.Expr.UnaryOp.elim (motive_1 := fun x => ∀ q, PySem.Expr.UnaryOp.elim (motive_1 := fun _ => Bool) x q f = true → M x) x q (fun a b c _ h => k a b c h) q h
noncomputable def onIfExp (f : PySem.Expr → PySem.Expr → PySem.Expr → Pos → Bool) (x : PySem.Expr) : Bool := if h : x.ctorIdx = 5 then PySem.Expr.IfExp.elim (motive_1 := fun _ => Bool) x h f else false
theorem inIfExp {f : PySem.Expr → PySem.Expr → PySem.Expr → Pos → Bool} {M : PySem.Expr → Prop} (k : ∀ a b c d, f a b c d = true → M (.IfExp a b c d)) {x : PySem.Expr} (h : onIfExp f x = true) : M x :=
  dsplit h fun q h => PySem.Expr.IfExp.elim (motive_1 := fun x => ∀ q, PySem.Expr.IfExp.elim (motive_1 := fun _ => Bool) x q f = true → M x) x q (fun a b c d _ h => k a b c d h) q h
noncomputable def onListComp (f : PySem.Expr → (List Comprehension) → Scope → Pos → Bool) (x : PySem.Expr) : Bool := if h : x.ctorIdx = 8 then PySem.Expr.ListComp.elim (motive_1 := fun _ => Bool) x h f else false
theorem inListComp {f : PySem.Expr → (List Comprehension) → Scope → Pos → Bool} {M : PySem.Expr → Prop} (k : ∀ a b c d, f a b c d = true → M (.ListComp a b c d)) {x : PySem.Expr} (h : onListComp f x = true) : M x :=
  dsplit h fun q h => PySem.Expr.ListComp.elim (motive_1 := fun x => ∀ q, PySem.Expr.ListComp.elim (motive_1 := fun _ => Bool) x q f = true → M x) x q (fun a b c d _ h => k a b c d h) q h
noncomputable def onCompare (f : PySem.Expr → (List CmpOp) → (List PySem.Expr) → Pos → Bool) (x : PySem.Expr) : Bool := if h : x.ctorIdx = 15 then PySem.Expr.Compare.elim (motive_1 := fun _ => Bool) x h f else false
theorem inCompare {f : PySem.Expr → (List CmpOp) → (List PySem.Expr) → Pos → Bool} {M : PySem.Expr → Prop} (k : ∀ a b c d, f a b c d = true → M (.Compare a b c d)) {x : PySem.Expr} (h : onCompare f x = true) : M x :=
  dsplit h fun q h => PySem.Expr.Compare.elim (motive_1 := fun x => ∀ q, PySem.Expr.Compare.elim (motive_1 := fun _ => Bool) x q f = true → M x) x q (fun a b c d _ h => k a b c d h) q h
noncomputable def onCall (f : PySem.Expr → (List PySem.Expr) → (List Keyword) → Pos → Bool) (x : PySem.Expr) : Bool := if h : x.ctorIdx = 16 then PySem.Expr.Call.elim (motive_1 := fun _ => Bool) x h f else false
theorem inCall {f : PySem.Expr → (List PySem.Expr) → (List Keyword) → Pos → Bool} {M : PySem.Expr → Prop} (k : ∀ a b c d, f a b c d = true → M (.Call a b c d)) {x : PySem.Expr} (h : onCall f x = true) : M x :=
  dsplit h fun q h => PySem.Expr.Call.elim (motive_1 := fun x => ∀ q, PySem.Expr.Call.elim (motive_1 := fun _ => Bool) x q f = true → M x) x q (fun a b c d _ h => k a b c d h) q h
noncomputable def onConstant (f : Const → Nat → Pos → Bool) (x : PySem.Expr) : Bool := if h : x.ctorIdx = 19 then PySem.Expr.Constant.elim (motive_1 := fun _ => Bool) x h f else false
theorem inConstant {f : Const → Nat → Pos → Bool} {M : PySem.Expr → Prop} (k : ∀ a b c, f a b c = true → M (.Constant a b c)) {x : PySem.Expr} (h : onConstant f x = true) : M x :=
  dsplit h fun q h => PySem.Expr.Constant.elim (motive_1 := fun x => ∀ q, PySem.Expr.Constant.elim (motive_1 := fun _ => Bool) x q f = true → M x) x q (fun a b c _ h => k a b c h) q h
noncomputable def onAttribute (f : PySem.Expr → Str → Pos → Bool) (x : PySem.Expr) : Bool := if h : x.ctorIdx = 20 then PySem.Expr.Attribute.elim (motive_1 := fun _ => Bool) x h f else false
theorem inAttribute {f : PySem.Expr → Str → Pos → Bool} {M : PySem.Expr → Prop} (k : ∀ a b c, f a b c = true → M (.Attribute a b c)) {x : PySem.Expr} (h : onAttribute f x = true) : M x :=
  dsplit h fun q h => PySem.Expr.Attribute.elim (motive_1 := fun x => ∀ q, PySem.Expr.Attribute.elim (motive_1 := fun _ => Bool) x q f = true → M x) x q (fun a b c _ h => k a b c h) q h
noncomputable def onSubscript (f : PySem.Expr → PySem.Expr → Pos → Bool) (x : PySem.Expr) : Bool := if h : x.ctorIdx = 21 then PySem.Expr.Subscript.elim (motive_1 := fun _ => Bool) x h f else false
theorem inSubscript {f : PySem.Expr → PySem.Expr → Pos → Bool} {M : PySem.Expr → Prop} (k : ∀ a b c, f a b c = true → M (.Subscript a b c)) {x : PySem.Expr} (h : onSubscript f x = true) : M x :=
  dsplit h fun q h => PySem.Expr.Subscript.elim (motive_1 := fun x => ∀ q, PySem.Expr.Subscript.elim (motive_1 := fun _ => Bool) x q f = true → M x) x q (fun a b c _ h => k a b c h) q h
noncomputable def onName (f : Str → Pos → Bool) (x : PySem.Expr) : Bool := if h : x.ctorIdx = 23 then PySem.Expr.Name.elim (motive_1 := fun _ => Bool) x h f else false
theorem inName {f : Str → Pos → Bool} {M : PySem.Expr → Prop} (k : ∀ a b, f a b = true → M (.Name a b)) {x : PySem.Expr} (h : onName f x = true) : M x :=
  dsplit h fun q h => PySem.Expr.Name.elim (motive_1 := fun x => ∀ q, PySem.Expr.Name.elim (motive_1 := fun _ => Bool) x q f = true → M x) x q (fun a b _ h => k a b h) q h
noncomputable def onList (f : (List PySem.Expr) → Pos → Bool) (x : PySem.Expr) : Bool := if h : x.ctorIdx = 24 then PySem.Expr.List.elim (motive_1 := fun _ => Bool) x h f else false
theorem inList {f : (List PySem.Expr) → Pos → Bool} {M : PySem.Expr → Prop} (k : ∀ a b, f a b = true → M (.List a b)) {x : PySem.Expr} (h : onList f x = true) : M x :=
  dsplit h fun q h => PySem.Expr.List.elim (motive_1 := fun x => ∀ q, PySem.Expr.List.elim (motive_1 := fun _ => Bool) x q f = true → M x) x q (fun a b _ h => k a b h) q h
noncomputable def onTuple (f : (List PySem.Expr) → Nat → Pos → Bool) (x : PySem.Expr) : Bool := if h : x.ctorIdx = 25 then PySem.Expr.Tuple.elim (motive_1 := fun _ => Bool) x h f else false
theorem inTuple {f : (List PySem.Expr) → Nat → Pos → Bool} {M : PySem.Expr → Prop} (k : ∀ a b c, f a b c = true → M (.Tuple a b c)) {x : PySem.Expr} (h : onTuple f x = true) : M x :=
  dsplit h fun q h => PySem.Expr.Tuple.elim (motive_1 := fun x => ∀ q, PySem.Expr.Tuple.elim (motive_1 := fun _ => Bool) x q f = true → M x) x q (fun a b c _ h => k a b c h) q h
noncomputable def onSlice (f : (Option PySem.Expr) → (Option PySem.Expr) → (Option PySem.Expr) → Pos → Bool) (x : PySem.Expr) : Bool := if h : x.ctorIdx = 26 then PySem.Expr.Slice.elim (motive_1 := fun _ => Bool) x h f else false
theorem inSlice {f : (Option PySem.Expr) → (Option PySem.Expr) → (Option PySem.Expr) → Pos → Bool} {M : PySem.Expr → Prop} (k : ∀ a b c d, f a b c d = true → M (.Slice a b c d)) {x : PySem.Expr} (h : onSlice f x = true) : M x :=
  dsplit h fun q h => PySem.Expr.Slice.elim (motive_1 := fun x => ∀ q, PySem.Expr.Slice.elim (motive_1 := fun _ => Bool) x q f = true → M x) x q (fun a b c d _ h => k a b c d h) q h
noncomputable def onSReturn (f : (Option PySem.Expr) → Pos → Bool) (x : PySem.Stmt) : Bool := if h : x.ctorIdx = 3 then PySem.Stmt.Return.elim (motive_2 := fun _ => Bool) x h f else false
theorem inSReturn {f : (Option PySem.Expr) → Pos → Bool} {M : PySem.Stmt → Prop} (k : ∀ a b, f a b = true → M (.Return a b)) {x : PySem.Stmt} (h : onSReturn f x = true) : M x :=
  dsplit h fun q h => PySem.Stmt.Return.elim (motive_2 := fun x => ∀ q, PySem.Stmt.Return.elim (motive_2 := fun _ => Bool) x q f = true → M x) x q (fun a b _ h => k a b h) q h
noncomputable def onSAssign (f : (List PySem.Expr) → PySem.Expr → Pos → Bool) (x : PySem.Stmt) : Bool := if h : x.ctorIdx = 5 then PySem.Stmt.Assign.elim (motive_2 := fun _ => Bool) x h f else false
theorem inSAssign {f : (List PySem.Expr) → PySem.Expr → Pos → Bool} {M : PySem.Stmt → Prop} (k : ∀ a b c, f a b c = true → M (.Assign a b c)) {x : PySem.Stmt} (h : onSAssign f x = true) : M x :=
  dsplit h fun q h => PySem.Stmt.Assign.elim (motive_2 := fun x => ∀ q, PySem.Stmt.Assign.elim (motive_2 := fun _ => Bool) x q f = true → M x) x q (fun a b c _ h => k a b c h) q h
noncomputable def onSFor (f : PySem.Expr → PySem.Expr → (List Stmt) → (List Stmt) → Pos → Bool) (x : PySem.Stmt) : Bool := if h : x.ctorIdx = 9 then PySem.Stmt.For.elim (motive_2 := fun _ => Bool) x h f else false
theorem inSFor {f : PySem.Expr → PySem.Expr → (List Stmt) → (List Stmt) → Pos → Bool} {M : PySem.Stmt → Prop} (k : ∀ a b c d e, f a b c d e = true → M (.For a b c d e)) {x : PySem.Stmt} (h : onSFor f x = true) : M x :=
  dsplit h fun q h => PySem.Stmt.For.elim (motive_2 := fun x => ∀ q, PySem.Stmt.For.elim (motive_2 := fun _ => Bool) x q f = true → M x) x q (fun a b c d e _ h => k a b c d e h) q h
noncomputable def onSWhile (f : PySem.Expr → (List Stmt) → (List Stmt) → Pos → Bool) (x : PySem.Stmt) : Bool := if h : x.ctorIdx = 11 then PySem.Stmt.While.elim (motive_2 := fun _ => Bool) x h f else false
theorem inSWhile {f : PySem.Expr → (List Stmt) → (List Stmt) → Pos → Bool} {M : PySem.Stmt → Prop} (k : ∀ a b c d, f a b c d = true → M (.While a b c d)) {x : PySem.Stmt} (h : onSWhile f x = true) : M x :=
  dsplit h fun q h => PySem.Stmt.While.elim (motive_2 := fun x => ∀ q, PySem.Stmt.While.elim (motive_2 := fun _ => Bool) x q f = true → M x) x q (fun a b c d _ h => k a b c d h) q h
noncomputable def onSIf (f : PySem.Expr → (List Stmt) → (List Stmt) → Pos → Bool) (x : PySem.Stmt) : Bool := if h : x.ctorIdx = 12 then PySem.Stmt.If.elim (motive_2 := fun _ => Bool) x h f else false
theorem inSIf {f : PySem.Expr → (List Stmt) → (List Stmt) → Pos → Bool} {M : PySem.Stmt → Prop} (k : ∀ a b c d, f a b c d = true → M (.If a b c d)) {x : PySem.Stmt} (h : onSIf f x = true) : M x :=
  dsplit h fun q h => PySem.Stmt.If.elim (motive_2 := fun x => ∀ q, PySem.Stmt.If.elim (motive_2 := fun _ => Bool) x q f = true → M x) x q (fun a b c d _ h => k a b c d h) q h
noncomputable def onSExpr (f : PySem.Expr → Pos → Bool) (x : PySem.Stmt) : Bool := if h : x.ctorIdx = 24 then PySem.Stmt.Expr.elim (motive_2 := fun _ => Bool) x h f else false
theorem inSExpr {f : PySem.Expr → Pos → Bool} {M : PySem.Stmt → Prop} (k : ∀ a b, f a b = true → M (.Expr a b)) {x : PySem.Stmt} (h : onSExpr f x = true) : M x :=
  dsplit h fun q h => PySem.Stmt.Expr.elim (motive_2 := fun x => ∀ q, PySem.Stmt.Expr.elim (motive_2 := fun _ => Bool) x q f = true → M x) x q (fun a b _ h => k a b h) q h
noncomputable def onCnone (f : Bool) (x : PySem.Const) : Bool := if h : x.ctorIdx = 0 then PySem.Const.none.elim (motive := fun _ => Bool) x h f else false
theorem inCnone {f : Bool} {M : PySem.Const → Prop} (k : f = true → M .none) {x : PySem.Const} (h : onCnone f x = true) : M x :=
  dsplit h fun q h => PySem.Const.none.elim (motive := fun x => ∀ q, PySem.Const.none.elim (motive := fun _ => Bool) x q f = true → M x) x q (fun _ h => k h) q h
noncomputable def onCbool (f : Bool → Bool) (x : PySem.Const) : Bool := if h : x.ctorIdx = 1 then PySem.Const.bool.elim (motive := fun _ => Bool) x h f else false
theorem inCbool {f : Bool → Bool} {M : PySem.Const → Prop} (k : ∀ a, f a = true → M (.bool a)) {x : PySem.Const} (h : onCbool f x = true) : M x :=
  dsplit h fun q h => PySem.Const.bool.elim (motive := fun x => ∀ q, PySem.Const.bool.elim (motive := fun _ => Bool) x q f = true → M x) x q (fun a _ h => k a h) q h
noncomputable def onCint (f : Int → Bool) (x : PySem.Const) : Bool := if h : x.ctorIdx = 2 then PySem.Const.int.elim (motive := fun _ => Bool) x h f else false
theorem inCint {f : Int → Bool} {M : PySem.Const → Prop} (k : ∀ a, f a = true → M (.int a)) {x : PySem.Const} (h : onCint f x = true) : M x :=
  dsplit h fun q h => PySem.Const.int.elim (motive := fun x => ∀ q, PySem.Const.int.elim (motive := fun _ => Bool) x q f = true → M x) x q (fun a _ h => k a h) q h

theorem and2k {a b : Bool} {M : Prop} (h : (a && b) = true) (k : a = true → b = true → M) : M := k (Bool.and_eq_true_iff.mp h).1 (Bool.and_eq_true_iff.mp h).2
theorem and3k {a b c : Bool} {M : Prop} (h : (a && b && c) = true) (k : a = true → b = true → c = true → M) : M := and2k h fun h l => and2k h fun ha hb => k ha hb l
theorem and4k {a b c d : Bool} {M : Prop} (h : (a && b && c && d) = true) (k : a = true → b = true → c = true → d = true → M) : M := and2k h fun h l => and3k h fun ha hb hc => k ha hb hc l
theorem and5k {a b c d e : Bool} {M : Prop} (h : (a && b && c && d && e) = true) (k : a = true → b = true → c = true → d = true → e = true → M) : M := and2k h fun h l => and4k h fun ha hb hc hd => k ha hb hc hd l
theorem and6k {a b c d e f : Bool} {M : Prop} (h : (a && b && c && d && e && f) = true) (k : a = true → b = true → c = true → d = true → e = true → f = true → M) : M := and2k h fun h l => and5k h fun ha hb hc hd he => k ha hb hc hd he l
theorem and7k {a b c d e f g : Bool} {M : Prop} (h : (a && b && c && d && e && f && g) = true) (k : a = true → b = true → c = true → d = true → e = true → f = true → g = true → M) : M := and2k h fun h l => and6k h fun ha hb hc hd he hf => k ha hb hc hd he hf l
theorem and8k {a b c d e f g i : Bool} {M : Prop} (h : (a && b && c && d && e && f && g && i) = true) (k : a = true → b = true → c = true → d = true → e = true → f = true → g = true → i = true → M) : M := and2k h fun h l => and7k h fun ha hb hc hd he hf hg => k ha hb hc hd he hf hg l
end Mine

set_option autoImplicit false
namespace Mine
open PySem PySem.W PySem.Calls PyProof.Rows

noncomputable def nm (i : Nat) : Str := Str.ofString (nms.getD i "")
noncomputable def fnm (i : Nat) : Str := Str.ofString (fns.getD i "")
noncomputable def strEq (a b : Str) : Bool := a.cps.toList == b.cps.toList
theorem eq_of_strEq {a b : Str} (h : strEq a b = true) : a = b := by
  obtain ⟨⟨a⟩⟩ := a
  obtain ⟨⟨b⟩⟩ := b
  simp only [strEq, beq_iff_eq] at h
  rw [h]

/-- which names are what -/
noncomputable def constId (g : Nat) : Bool := g == 10 || g == 11
noncomputable def staticId (g : Nat) : Bool := g == 17 || g == 18 || g == 19
noncomputable def methId (g : Nat) : Bool := Nat.ble 20 g && Nat.ble g 28
noncomputable def nameId (g : Nat) : Bool := !constId g && !staticId g && !methId g && Nat.blt g 65

noncomputable def kindIn (sc : Scope) (s : Str) (k : NameKind) : Bool := decide (sc.names.lookup s = some k)
/-- a comprehension's own table of names -/
noncomputable def compScope (sc : Scope) (ts cap gl : List Nat) : Bool :=
  decide (sc.kind = .function) && (sc.names.all fun x => decide (x.2 ≠ .cell)) && (sc.names.all fun x => !decide (x.2 = .local) || decide (sc.names.lookup x.1 = some .local)) &&
  (ts.all fun i => kindIn sc (nm i) .local && Nat.blt i 56) && (cap.all fun i => kindIn sc (nm i) .free) && (gl.all fun g => kindIn sc (fnm g) .globalImplicit) &&
  (sc.names.all fun x => !decide (x.2 = .free) || cap.any fun i => strEq x.1 (nm i)) && (gl.all fun g => Nat.blt g 1000)

/-- the names of a comprehension's own scope -/
noncomputable def inGl (gl cap : List Nat) : List Nat := gl ++ cap.map (1000 + ·)
noncomputable def cmpOk : CmpOp → Bool
  | .Is | .IsNot | .NotIn => false
  | _ => true
noncomputable def chkL (f : PySem.Expr → X → Bool) : List PySem.Expr → List X → Bool
  | es, [] => onNil true es
  | es, x :: xs => onCons (fun e r => f e x && chkL f r xs) es
theorem chkL_cons {f : PySem.Expr → X → Bool} {e : PySem.Expr} {es : List PySem.Expr} {x : X} {xs : List X} {M : Prop} (h : chkL f (e :: es) (x :: xs) = true) (k : f e x = true → chkL f es xs = true → M) : M := and2k h k
noncomputable def nameIs (e : PySem.Expr) (i : Nat) : Bool := onName (fun s _ => strEq s (nm i)) e
theorem nameIs_is {e : PySem.Expr} {i : Nat} {M : PySem.Expr → Prop} (h : nameIs e i = true) (k : ∀ p, M (.Name (nm i) p)) : M e :=
  inName (M := M) (fun _ p h => by cases eq_of_strEq h; exact k p) h
noncomputable def chkT (tt : Bool) (ts : List Nat) (t : PySem.Expr) : Bool := match tt with
  | false => on1 (fun x => nameIs t x) ts
  | true => on2 (fun x y => onTuple (fun l _ _ => on2 (fun a b => nameIs a x && nameIs b y && !Nat.beq x y) l) t) ts

noncomputable def condOk (f : PySem.Expr → X → Bool) (c : Option X) (l : List PySem.Expr) : Bool := match c with
  | Option.none => onNil true l
  | some c => on1 (fun c' => f c' c) l
noncomputable def compChk (f : List Nat → PySem.Expr → X → Bool) (Gs : List Nat) (elt' t' it' : PySem.Expr) (ifs' : List PySem.Expr) (as : Int) (sc : Scope) (elt : X) (tt : Bool) (ts : List Nat) (src : X) (cond : Option X) (cap gl : List Nat) : Bool :=
  decide (as = 0) && compScope sc ts cap gl && (cap.all fun i => Gs.contains (1000 + i)) && chkT tt ts t' && f Gs it' src && f (inGl gl cap) elt' elt && condOk (f (inGl gl cap)) cond ifs'
noncomputable def compChk2 (f : List Nat → PySem.Expr → X → Bool) (Gs : List Nat) (elt' : PySem.Expr) (n1 : Str) (it1 : PySem.Expr) (as1 : Int) (n2 : Str) (it2 : PySem.Expr) (as2 : Int) (sc : Scope) (elt : X) (t1 : Nat) (s1 : X) (t2 : Nat) (s2 : X) (cap gl : List Nat) : Bool :=
  decide (as1 = 0) && decide (as2 = 0) && compScope sc [t1, t2] cap gl && (cap.all fun i => Gs.contains (1000 + i)) && strEq n1 (nm t1) && strEq n2 (nm t2) && !Nat.beq t1 t2 &&
    f Gs it1 s1 && f (inGl gl cap) it2 s2 && f (inGl gl cap) elt' elt

noncomputable def chkE (k : Nat) : Nat → List Nat → PySem.Expr → X → Bool
  | 0, _, _, _ => false
  | m + 1, Gs, e, x => match x with
    | .none => onConstant (fun c _ _ => onCnone true c) e
    | .bool b => onConstant (fun c _ _ => onCbool (fun d => b == d) c) e
    | .int i => onConstant (fun c _ _ => onCint (fun j => decide (i = j)) c) e
    | .var i => onName (fun s _ => strEq s (nm i)) e
    | .gint g => onName (fun s _ => strEq s (fnm g) && Gs.contains g && constId g) e
    | .bin op l r => onBinOp (fun l' op' r' _ => decide (op = op') && chkE k m Gs l' l && chkE k m Gs r' r) e
    | .neg x => onUnaryOp (fun o x' _ => decide (o = .USub) && chkE k m Gs x' x) e
    | .notE x => onUnaryOp (fun o x' _ => decide (o = .Not) && chkE k m Gs x' x) e
    | .cmp op l r => onCompare (fun l' os rs _ => on1 (fun op' => on1 (fun r' => decide (op = op') && cmpOk op && chkE k m Gs l' l && chkE k m Gs r' r) rs) os) e
    | .cmp2 op l t op2 r => onCompare (fun l' os rs _ => on2 (fun o1 o2 => on2 (fun t' r' => decide (op = o1) && decide (op2 = o2) && cmpOk op && cmpOk op2 && chkE k m Gs l' l && chkE k m Gs t' t && chkE k m Gs r' r) rs) os) e
    | .isNone x => onCompare (fun x' os rs _ => on1 (fun o => on1 (fun r => onConstant (fun c _ _ => onCnone (decide (o = .Is) && chkE k m Gs x' x) c) r) rs) os) e
    | .andE xs => onBoolOp (fun o xs' _ => decide (o = .And) && chkL (chkE k m Gs) xs' xs) e
    | .orE xs => onBoolOp (fun o xs' _ => decide (o = .Or) && chkL (chkE k m Gs) xs' xs) e
    | .ite c t e1 => onIfExp (fun c' t' e' _ => chkE k m Gs c' c && chkE k m Gs t' t && chkE k m Gs e' e1) e
    | .call f args => onCall (fun g args' kw _ => onName (fun s _ => onNil (strEq s (fnm f) && Gs.contains f && Nat.blt f k && nameId f && chkL (chkE k m Gs) args' args && decide (args'.length < 30)) kw) g) e
    | .static f args => onCall (fun g args' kw p => onAttribute (fun o a ap => onName (fun s _ => onNil (strEq s (fnm 12) && strEq a (fnm f) && Gs.contains 12 && Nat.blt f k && staticId f && chkL (chkE k m Gs) args' args && decide (args'.length < 20) && decide (ap.endLine = p.line)) kw) o) g) e
    | .meth f o args => onCall (fun g args' kw p => onAttribute (fun o' a ap => onNil (strEq a (fnm f) && Nat.blt f k && methId f && chkE k m Gs o' o && chkL (chkE k m Gs) args' args && decide (args'.length < 20) && decide (ap.endLine = p.line)) kw) g) e
    | .value o => onAttribute (fun o' a _ => strEq a (Str.ofString "value") && chkE k m Gs o' o) e
    | .mask o => onAttribute (fun o' a _ => strEq a (Str.ofString "mask") && chkE k m Gs o' o) e
    | .idx o i => onSubscript (fun o' i' _ => chkE k m Gs o' o && chkE k m Gs i' i) e
    | .penAt o i => onSubscript (fun o' i' _ => onConstant (fun c _ _ => onCint (fun j => decide (j = (i : Int)) && Nat.blt i 3 && chkE k m Gs o' o) c) i') e
    | .upto o n => onSubscript (fun o' i' _ => onSlice (fun lo hi st _ => onNone (onSome (fun u => onConstant (fun c _ _ => onCint (fun j => onNone (decide (j = n) && decide (0 ≤ n) && chkE k m Gs o' o) st) c) u) hi) lo) i') e
    | .list xs => onList (fun xs' _ => chkL (chkE k m Gs) xs' xs && decide (xs'.length < 1000)) e
    | .tup xs => onTuple (fun xs' _ _ => chkL (chkE k m Gs) xs' xs && decide (xs'.length < 1000)) e
    | .comp elt tt ts src cond cap gl => onListComp (fun elt' gens sc _ => on1 (fun g => compChk (chkE k m) Gs elt' g.target g.iter g.ifs g.is_async sc elt tt ts src cond cap gl) gens) e
    | .comp2 elt t1 s1 t2 s2 cap gl => onListComp (fun elt' gens sc _ => on2 (fun g1 g2 => onName (fun n1 _ => onNil (onName (fun n2 _ => onNil (compChk2 (chkE k m) Gs elt' n1 g1.iter g1.is_async n2 g2.iter g2.is_async sc elt t1 s1 t2 s2 cap gl) g2.ifs) g2.target) g1.ifs) g1.target) gens) e

/-- the shape that a match gives an expression -/
inductive CE : PySem.Expr → X → Prop
  | none {p : _} {q : _} : CE (.Constant .none p q) .none
  | bool (b d : Bool) (p : _) (q : _) : CE (.Constant (.bool d) p q) (.bool b)
  | int (i j : Int) (p : _) (q : _) : CE (.Constant (.int j) p q) (.int i)
  | var (i : Nat) (s : Str) (p : _) : CE (.Name s p) (.var i)
  | gint (g : Nat) (s : Str) (p : _) : CE (.Name s p) (.gint g)
  | bin (op : Operator) (l r : X) (l' : PySem.Expr) (op' : Operator) (r' : PySem.Expr) (p : _) : CE (.BinOp l' op' r' p) (.bin op l r)
  | neg (x : X) (x' : PySem.Expr) (p : _) : CE (.UnaryOp .USub x' p) (.neg x)
  | notE (x : X) (x' : PySem.Expr) (p : _) : CE (.UnaryOp .Not x' p) (.notE x)
  | cmp (op : CmpOp) (l r : X) (l' : PySem.Expr) (op' : CmpOp) (r' : PySem.Expr) (p : _) : CE (.Compare l' [op'] [r'] p) (.cmp op l r)
  | cmp2 (op : CmpOp) (l t : X) (op2 : CmpOp) (r : X) (l' : PySem.Expr) (o1 o2 : CmpOp) (t' r' : PySem.Expr) (p : _) : CE (.Compare l' [o1, o2] [t', r'] p) (.cmp2 op l t op2 r)
  | isNone (x : X) (x' : PySem.Expr) (a : _) (b : _) (p : _) : CE (.Compare x' [.Is] [.Constant .none a b] p) (.isNone x)
  | andE (xs : List X) (xs' : List PySem.Expr) (p : _) : CE (.BoolOp .And xs' p) (.andE xs)
  | orE (xs : List X) (xs' : List PySem.Expr) (p : _) : CE (.BoolOp .Or xs' p) (.orE xs)
  | ite (c t e : X) (c' t' e' : PySem.Expr) (p : _) : CE (.IfExp c' t' e' p) (.ite c t e)
  | call (f : Nat) (args : List X) (s : Str) (q : _) (args' : List PySem.Expr) (p : _) : CE (.Call (.Name s q) args' [] p) (.call f args)
  | static (f : Nat) (args : List X) (s : Str) (q : _) (a : Str) (ap : Pos) (args' : List PySem.Expr) (p : Pos) : CE (.Call (.Attribute (.Name s q) a ap) args' [] p) (.static f args)
  | meth (f : Nat) (o : X) (args : List X) (o' : PySem.Expr) (a : Str) (ap : Pos) (args' : List PySem.Expr) (p : Pos) : CE (.Call (.Attribute o' a ap) args' [] p) (.meth f o args)
  | value (o : X) (o' : PySem.Expr) (a : Str) (p : _) : CE (.Attribute o' a p) (.value o)
  | mask (o : X) (o' : PySem.Expr) (a : Str) (p : _) : CE (.Attribute o' a p) (.mask o)
  | idx (o i : X) (o' i' : PySem.Expr) (p : _) : CE (.Subscript o' i' p) (.idx o i)
  | penAt (o : X) (i : Nat) (o' : PySem.Expr) (j : Int) (a : _) (b : _) (p : _) : CE (.Subscript o' (.Constant (.int j) a b) p) (.penAt o i)
  | upto (o : X) (n : Int) (o' : PySem.Expr) (j : Int) (a : _) (b : _) (q : _) (p : _) : CE (.Subscript o' (.Slice Option.none (some (.Constant (.int j) a b)) Option.none q) p) (.upto o n)
  | list (xs : List X) (xs' : List PySem.Expr) (p : _) : CE (.List xs' p) (.list xs)
  | tup (xs : List X) (xs' : List PySem.Expr) (a : _) (p : _) : CE (.Tuple xs' a p) (.tup xs)
  | comp (elt : X) (tt : Bool) (ts : List Nat) (src : X) (cond : Option X) (cap gl : List Nat) (elt' t' it' : PySem.Expr) (ifs' : List PySem.Expr) (as : Int) (sc : Scope) (p : _) : CE (.ListComp elt' [⟨t', it', ifs', as⟩] sc p) (.comp elt tt ts src cond cap gl)
  | comp2 (elt : X) (t1 : Nat) (s1 : X) (t2 : Nat) (s2 : X) (cap gl : List Nat) (elt' : PySem.Expr) (n1 : Str) (p1 : _) (it1 : PySem.Expr) (as1 : Int) (n2 : Str) (p2 : _) (it2 : PySem.Expr) (as2 : Int) (sc : Scope) (p : _) : CE (.ListComp elt' [⟨.Name n1 p1, it1, [], as1⟩, ⟨.Name n2 p2, it2, [], as2⟩] sc p) (.comp2 elt t1 s1 t2 s2 cap gl)

theorem chkE_zero {k : Nat} {Gs : List Nat} {e : PySem.Expr} {x : X} (h : chkE k 0 Gs e x = true) : False := no h
theorem ce_of1 {k m : Nat} {Gs : List Nat} {e : PySem.Expr} {x : X} (h : chkE k (m + 1) Gs e x = true) : CE e x := by
  cases x with
  | none => exact inConstant (M := fun e => CE e _) (fun c p q h => inCnone (M := fun c => CE (.Constant c p q) _) (fun _ => .none) h) h
  | bool b => exact inConstant (M := fun e => CE e _) (fun c p q h => inCbool (M := fun c => CE (.Constant c p q) _) (fun d _ => .bool b d p q) h) h
  | int i => exact inConstant (M := fun e => CE e _) (fun c p q h => inCint (M := fun c => CE (.Constant c p q) _) (fun j _ => .int i j p q) h) h
  | var i => exact inName (M := fun e => CE e _) (fun s p _ => .var i s p) h
  | gint g => exact inName (M := fun e => CE e _) (fun s p _ => .gint g s p) h
  | bin op l r => exact inBinOp (M := fun e => CE e _) (fun l' op' r' p _ => .bin op l r l' op' r' p) h
  | neg x => exact inUnaryOp (M := fun e => CE e _) (fun o x' p h => and2k h fun q _ => of_decide_eq_true q ▸ .neg x x' p) h
  | notE x => exact inUnaryOp (M := fun e => CE e _) (fun o x' p h => and2k h fun q _ => of_decide_eq_true q ▸ .notE x x' p) h
  | cmp op l r => exact inCompare (M := fun e => CE e _) (fun l' os rs p h => in1 (M := fun os => CE (.Compare l' os rs p) _) (fun o h => in1 (M := fun rs => CE (.Compare l' [o] rs p) _) (fun r' _ => .cmp op l r l' o r' p) h) h) h
  | cmp2 op l t op2 r => exact inCompare (M := fun e => CE e _) (fun l' os rs p h => in2 (M := fun os => CE (.Compare l' os rs p) _) (fun o1 o2 h => in2 (M := fun rs => CE (.Compare l' [o1, o2] rs p) _) (fun t' r' _ => .cmp2 op l t op2 r l' o1 o2 t' r' p) h) h) h
  | isNone x => exact inCompare (M := fun e => CE e _) (fun l' os rs p h => in1 (M := fun os => CE (.Compare l' os rs p) _) (fun o h => in1 (M := fun rs => CE (.Compare l' [o] rs p) _) (fun r' h => inConstant (M := fun r' => CE (.Compare l' [o] [r'] p) _) (fun c a b h => inCnone (M := fun c => CE (.Compare l' [o] [.Constant c a b] p) _) (fun h => and2k h fun q _ => of_decide_eq_true q ▸ .isNone x l' a b p) h) h) h) h) h
  | andE xs => exact inBoolOp (M := fun e => CE e _) (fun o xs' p h => and2k h fun q _ => of_decide_eq_true q ▸ .andE xs xs' p) h
  | orE xs => exact inBoolOp (M := fun e => CE e _) (fun o xs' p h => and2k h fun q _ => of_decide_eq_true q ▸ .orE xs xs' p) h
  | ite c t e => exact inIfExp (M := fun e => CE e _) (fun c' t' e' p _ => .ite c t e c' t' e' p) h
  | call f args => exact inCall (M := fun e => CE e _) (fun g as kw p h => inName (M := fun g => CE (.Call g as kw p) _) (fun s q h => inNil (M := fun kw => CE (.Call (.Name s q) as kw p) _) (fun _ => .call f args s q as p) h) h) h
  | static f args => exact inCall (M := fun e => CE e _) (fun g as kw p h => inAttribute (M := fun g => CE (.Call g as kw p) _) (fun o a ap h => inName (M := fun o => CE (.Call (.Attribute o a ap) as kw p) _) (fun s q h => inNil (M := fun kw => CE (.Call (.Attribute (.Name s q) a ap) as kw p) _) (fun _ => .static f args s q a ap as p) h) h) h) h
  | meth f o args => exact inCall (M := fun e => CE e _) (fun g as kw p h => inAttribute (M := fun g => CE (.Call g as kw p) _) (fun o' a ap h => inNil (M := fun kw => CE (.Call (.Attribute o' a ap) as kw p) _) (fun _ => .meth f o args o' a ap as p) h) h) h
  | value o => exact inAttribute (M := fun e => CE e _) (fun o' a p _ => .value o o' a p) h
  | mask o => exact inAttribute (M := fun e => CE e _) (fun o' a p _ => .mask o o' a p) h
  | idx o i => exact inSubscript (M := fun e => CE e _) (fun o' i' p _ => .idx o i o' i' p) h
  | penAt o i => exact inSubscript (M := fun e => CE e _) (fun o' i' p h => inConstant (M := fun i' => CE (.Subscript o' i' p) _) (fun c a b h => inCint (M := fun c => CE (.Subscript o' (.Constant c a b) p) _) (fun j _ => .penAt o i o' j a b p) h) h) h
  | upto o n => exact inSubscript (M := fun e => CE e _) (fun o' i' p h => inSlice (M := fun i' => CE (.Subscript o' i' p) _) (fun lo hi st q h => inNone (M := fun lo => CE (.Subscript o' (.Slice lo hi st q) p) _) (fun h => inSome (M := fun hi => CE (.Subscript o' (.Slice Option.none hi st q) p) _) (fun u h => inConstant (M := fun u => CE (.Subscript o' (.Slice Option.none (some u) st q) p) _) (fun c a b h => inCint (M := fun c => CE (.Subscript o' (.Slice Option.none (some (.Constant c a b)) st q) p) _) (fun j h => inNone (M := fun st => CE (.Subscript o' (.Slice Option.none (some (.Constant (.int j) a b)) st q) p) _) (fun _ => .upto o n o' j a b q p) h) h) h) h) h) h) h
  | list xs => exact inList (M := fun e => CE e _) (fun xs' p _ => .list xs xs' p) h
  | tup xs => exact inTuple (M := fun e => CE e _) (fun xs' a p _ => .tup xs xs' a p) h
  | comp elt tt ts src cond cap gl => exact inListComp (M := fun e => CE e (.comp elt tt ts src cond cap gl)) (fun elt' gens sc p h => in1 (M := fun gens => CE (.ListComp elt' gens sc p) (.comp elt tt ts src cond cap gl)) (fun g _ => by cases g with | mk t' it' ifs' as => exact .comp elt tt ts src cond cap gl elt' t' it' ifs' as sc p) h) h
  | comp2 elt t1 s1 t2 s2 cap gl => exact inListComp (M := fun e => CE e (.comp2 elt t1 s1 t2 s2 cap gl)) (fun elt' gens sc p h => in2 (M := fun gens => CE (.ListComp elt' gens sc p) (.comp2 elt t1 s1 t2 s2 cap gl)) (fun g1 g2 h => by
      cases g1 with | mk u1 i1 f1 a1 => cases g2 with | mk u2 i2 f2 a2 => exact inName (M := fun t => CE (.ListComp elt' [⟨t, i1, f1, a1⟩, ⟨u2, i2, f2, a2⟩] sc p) (.comp2 elt t1 s1 t2 s2 cap gl)) (fun n1 p1 h => inNil (M := fun i => CE (.ListComp elt' [⟨.Name n1 p1, i1, i, a1⟩, ⟨u2, i2, f2, a2⟩] sc p) (.comp2 elt t1 s1 t2 s2 cap gl)) (fun h => inName (M := fun t => CE (.ListComp elt' [⟨.Name n1 p1, i1, [], a1⟩, ⟨t, i2, f2, a2⟩] sc p) (.comp2 elt t1 s1 t2 s2 cap gl)) (fun n2 p2 h => inNil (M := fun i => CE (.ListComp elt' [⟨.Name n1 p1, i1, [], a1⟩, ⟨.Name n2 p2, i2, i, a2⟩] sc p) (.comp2 elt t1 s1 t2 s2 cap gl)) (fun _ => .comp2 elt t1 s1 t2 s2 cap gl elt' n1 p1 i1 a1 n2 p2 i2 a2 sc p) h) h) h) h) h) h
theorem ce_of {k m : Nat} {Gs : List Nat} {e : PySem.Expr} {x : X} (h : chkE k m Gs e x = true) : CE e x := by
  cases m with
  | zero => exact no h
  | succ m => exact ce_of1 h

/-- what stays of the heap, whoever writes -/
noncomputable abbrev Fz := Addr → Option Obj

/-- the constants of a walk -/
structure Cx where
  prog : Program
  w : World
  K : Frag
  C : Addr
  base : Heap
  p : Option Addr
  mg : Str → Option Value
  mb : Str → Option Value
  X : K.In base
  G : base.Ns mainGlobals mg
  B : base.Ns builtinsNs mb
  nolimit : base.NoLimit

mutual
noncomputable def Is (c : Cx) (φ : Fz) : V → Value → Prop
  | .none, v => v = .none
  | .bool b, v => v = .bool b
  | .int i, v => ∃ t, v = .int i t
  | .list xs, v => ∃ a o n vs, v = .ref a ∧ φ a = some o ∧ o.cls = .type "list" ∧ o.data = .seq vs n ∧ vs.size ≤ sizeLine ∧ IsL c φ xs vs.toList
  | .tup xs, v => ∃ a o n vs, v = .ref a ∧ φ a = some o ∧ o.cls = .type "tuple" ∧ o.data = .seq vs n ∧ vs.size ≤ sizeLine ∧ IsL c φ xs vs.toList
  | .rng a b, v => ∃ r t u z, v = .ref r ∧ φ r = some { cls := .type "range", data := .fields #[.int a t, .int b u, .int 1 z] }
  | .tnum x m, v => ∃ a d h1 h2 k1 k2 t1 t2 n, v = .ref a ∧ φ a = some (instObj c.C d) ∧ φ d = some (dictOf [⟨h1, .str (Str.ofString "value") k1, .int x t1⟩, ⟨h2, .str (Str.ofString "mask") k2, .int m t2⟩] n)
  | .pen, v => ∃ a, c.p = some a ∧ v = .ref a
noncomputable def IsL (c : Cx) (φ : Fz) : List V → List Value → Prop
  | [], [] => True
  | x :: xs, v :: vs => Is c φ x v ∧ IsL c φ xs vs
  | [], _ :: _ => False
  | _ :: _, [] => False
end

mutual
theorem Is.mono {c : Cx} {φ φ' : Fz} (h : ∀ a o, φ a = some o → φ' a = some o) : ∀ (x : V) {v : Value}, Is c φ x v → Is c φ' x v
  | .none, _, e => by simpa only [Is] using e
  | .bool _, _, e => by simpa only [Is] using e
  | .int _, _, e => by simpa only [Is] using e
  | .list xs, _, e => by
    simp only [Is] at e ⊢
    obtain ⟨a, o, n, vs, e1, e2, e3, e4, e5, e6⟩ := e
    exact ⟨a, o, n, vs, e1, h _ _ e2, e3, e4, e5, IsL.mono h xs e6⟩
  | .tup xs, _, e => by
    simp only [Is] at e ⊢
    obtain ⟨a, o, n, vs, e1, e2, e3, e4, e5, e6⟩ := e
    exact ⟨a, o, n, vs, e1, h _ _ e2, e3, e4, e5, IsL.mono h xs e6⟩
  | .rng _ _, _, e => by
    simp only [Is] at e ⊢
    obtain ⟨r, t, u, z, e1, e2⟩ := e
    exact ⟨r, t, u, z, e1, h _ _ e2⟩
  | .tnum _ _, _, e => by
    simp only [Is] at e ⊢
    obtain ⟨a, d, h1, h2, k1, k2, t1, t2, n, e1, e2, e3⟩ := e
    exact ⟨a, d, h1, h2, k1, k2, t1, t2, n, e1, h _ _ e2, h _ _ e3⟩
  | .pen, _, e => by simpa only [Is] using e
theorem IsL.mono {c : Cx} {φ φ' : Fz} (h : ∀ a o, φ a = some o → φ' a = some o) : ∀ (xs : List V) {vs : List Value}, IsL c φ xs vs → IsL c φ' xs vs
  | [], [], _ => trivial
  | x :: xs, v :: vs, e => ⟨Is.mono h x e.1, IsL.mono h xs e.2⟩
  | [], _ :: _, e => by simp only [IsL] at e
  | _ :: _, [], e => by simp only [IsL] at e
end
theorem IsL.length {c : Cx} {φ : Fz} : ∀ {xs : List V} {vs : List Value}, IsL c φ xs vs → xs.length = vs.length
  | [], [], _ => rfl
  | _ :: _, _ :: _, e => congrArg (· + 1) (IsL.length e.2)
  | [], _ :: _, e => by simp only [IsL] at e
  | _ :: _, [], e => by simp only [IsL] at e
theorem IsL.append {c : Cx} {φ : Fz} : ∀ {xs ys : List V} {vs ws : List Value}, IsL c φ xs vs → IsL c φ ys ws → IsL c φ (xs ++ ys) (vs ++ ws)
  | [], _, [], _, _, e => e
  | _ :: _, _, _ :: _, _, d, e => ⟨d.1, IsL.append d.2 e⟩
  | [], _, _ :: _, _, d, _ => by simp only [IsL] at d
  | _ :: _, _, [], _, d, _ => by simp only [IsL] at d
theorem IsL.get {c : Cx} {φ : Fz} : ∀ {xs : List V} {vs : List Value} {i : Nat} {x : V}, IsL c φ xs vs → xs[i]? = some x → ∃ v, vs[i]? = some v ∧ Is c φ x v
  | _ :: _, _ :: _, 0, _, d, e => by simp at e; subst e; exact ⟨_, rfl, d.1⟩
  | _ :: _, _ :: _, i + 1, _, d, e => by simp at e ⊢; exact IsL.get d.2 e
  | [], _, _, _, _, e => by simp at e
  | _ :: _, [], _, _, d, _ => by simp only [IsL] at d
theorem IsL.take {c : Cx} {φ : Fz} : ∀ {xs : List V} {vs : List Value} (n : Nat), IsL c φ xs vs → IsL c φ (xs.take n) (vs.take n)
  | [], [], _, _ => by simp [IsL]
  | _ :: _, _ :: _, 0, _ => by simp [IsL]
  | _ :: _, _ :: _, n + 1, d => by simp only [List.take_succ_cons]; exact ⟨d.1, IsL.take n d.2⟩
  | [], _ :: _, _, d => by simp only [IsL] at d
  | _ :: _, [], _, d => by simp only [IsL] at d

noncomputable def PenKnown (c : Cx) (φ : Fz) (h : Heap) (cs : List Int) (sp k : Int) : Prop :=
  ∃ a q o n t1 t2, c.p = some a ∧ φ a = none ∧ h.get? a = some o ∧ o.cls = .type "list" ∧ o.data = .seq #[.ref q, .int sp t1, .int k t2] n ∧ Is c φ (.list (cs.map .int)) (.ref q)
/-- the least bound that a great int of the script keeps -/
noncomputable def PenOk (c : Cx) (φ : Fz) (h : Heap) : Pn → Prop
  | .none => c.p = none
  | .known cs sp k => PenKnown c φ h cs sp k
  | .upto n => ∃ cs sp k, PenKnown c φ h cs sp k ∧ cs.length ≤ 40 ∧ 0 ≤ sp ∧ sp ≤ (n : Int) ∧ 0 ≤ k

structure St (c : Cx) (φ : Fz) (s : Shared) (pn : Pn) : Prop where
  sub : ∀ a o, φ a = some o → s.heap.get? a = some o
  bas : ∀ a o, c.base.get? a = some o → φ a = some o
  pen : PenOk c φ s.heap pn
  fresh : ∀ a, c.p = some a → s.heap.get? a ≠ none ∧ φ a = none

structure Ext (c : Cx) (φ : Fz) (s : Shared) (φ' : Fz) (s' : Shared) : Prop where
  same : ∃ h' tk, s' = { s with heap := h', toks := tk }
  keep : ∀ a o, some a ≠ c.p → s.heap.get? a = some o → s'.heap.get? a = some o
  live : ∀ a, s.heap.get? a ≠ none → s'.heap.get? a ≠ none
  fz : ∀ a, s.heap.get? a ≠ none → φ' a = φ a

theorem Ext.refl (c : Cx) (φ : Fz) (s : Shared) : Ext c φ s φ s := ⟨⟨s.heap, s.toks, rfl⟩, fun _ _ _ e => e, fun _ e => e, fun _ _ => rfl⟩
theorem Ext.trans {c : Cx} {φ φ' φ'' : Fz} {s s' s'' : Shared} (x : Ext c φ s φ' s') (y : Ext c φ' s' φ'' s'') : Ext c φ s φ'' s'' :=
  ⟨by obtain ⟨h, t, rfl⟩ := x.same; obtain ⟨h', t', rfl⟩ := y.same; exact ⟨h', t', rfl⟩, fun a o n e => y.keep a o n (x.keep a o n e), fun a e => y.live a (x.live a e), fun a e => (y.fz a (x.live a e)).trans (x.fz a e)⟩
theorem Ext.up {c : Cx} {φ φ' : Fz} {s s' : Shared} {pn : Pn} (x : Ext c φ s φ' s') (S : St c φ s pn) : ∀ a o, φ a = some o → φ' a = some o :=
  fun a o e => (x.fz a (by rw [S.sub a o e]; simp)).trans e
theorem Ext.is {c : Cx} {φ φ' : Fz} {s s' : Shared} {pn : Pn} (x : Ext c φ s φ' s') (S : St c φ s pn) {u : V} {v : Value} (e : Is c φ u v) : Is c φ' u v := Is.mono (x.up S) u e
theorem Ext.isL {c : Cx} {φ φ' : Fz} {s s' : Shared} {pn : Pn} (x : Ext c φ s φ' s') (S : St c φ s pn) {u : List V} {v : List Value} (e : IsL c φ u v) : IsL c φ' u v := IsL.mono (x.up S) u e

theorem PenKnown.mono {c : Cx} {φ φ' : Fz} {h h' : Heap} {cs : List Int} {sp k : Int} (x : PenKnown c φ h cs sp k) (up : ∀ a o, φ a = some o → φ' a = some o)
    (hp : ∀ a, c.p = some a → φ' a = none ∧ ∀ o, h.get? a = some o → h'.get? a = some o) : PenKnown c φ' h' cs sp k := by
  obtain ⟨a, q, o, n, t1, t2, e1, e2, e3, e4, e5, e6⟩ := x
  exact ⟨a, q, o, n, t1, t2, e1, (hp a e1).1, (hp a e1).2 _ e3, e4, e5, Is.mono up _ e6⟩
theorem PenOk.mono {c : Cx} {φ φ' : Fz} {h h' : Heap} {pn : Pn} (x : PenOk c φ h pn) (up : ∀ a o, φ a = some o → φ' a = some o)
    (hp : ∀ a, c.p = some a → φ' a = none ∧ ∀ o, h.get? a = some o → h'.get? a = some o) : PenOk c φ' h' pn := by
  cases pn with
  | none => exact x
  | known cs sp k => exact PenKnown.mono x up hp
  | upto n => obtain ⟨cs, sp, k, y, r⟩ := x; exact ⟨cs, sp, k, y.mono up hp, r⟩

/-- a step that keeps every object: what it makes may be frozen (those that ψ names) -/
theorem St.grow {c : Cx} {φ : Fz} {s : Shared} {pn : Pn} (S : St c φ s pn) {h' : Heap} {tk : Nat} (ψ : Fz) (hk : ∀ a o, s.heap.get? a = some o → h'.get? a = some o)
    (hψ : ∀ a o, ψ a = some o → h'.get? a = some o ∧ s.heap.get? a = none) :
    Ext c φ s (fun a => (ψ a).or (φ a)) { s with heap := h', toks := tk } ∧ St c (fun a => (ψ a).or (φ a)) { s with heap := h', toks := tk } pn := by
  have ne : ∀ a, s.heap.get? a ≠ none → ψ a = none := fun a e => by
    cases q : ψ a with
    | none => rfl
    | some o => exact absurd (hψ a o q).2 e
  have up : ∀ a o, φ a = some o → (ψ a).or (φ a) = some o := fun a o e => by rw [ne a (by rw [S.sub a o e]; simp)]; exact e
  refine ⟨⟨⟨h', tk, rfl⟩, fun a o _ e => hk a o e, fun a e => ?_, fun a e => by rw [ne a e]; rfl⟩, ⟨fun a o e => ?_, fun a o e => up a o (S.bas a o e), S.pen.mono up fun a e => ⟨by rw [ne a (S.fresh a e).1]; exact (S.fresh a e).2, fun o q => hk a o q⟩, fun a e => ⟨?_, by rw [ne a (S.fresh a e).1]; exact (S.fresh a e).2⟩⟩⟩
  · cases q : s.heap.get? a with
    | none => exact absurd q e
    | some o => rw [show ({ s with heap := h', toks := tk } : Shared).heap.get? a = some o from hk a o q]; simp
  · cases q : ψ a with
    | some o' => simp only [q, Option.some_or] at e; cases e; exact (hψ a _ q).1
    | none => simp only [q, Option.none_or] at e; exact hk a o (S.sub a o e)
  · have := (S.fresh a e).1
    cases q : s.heap.get? a with
    | none => exact absurd q this
    | some o => rw [show ({ s with heap := h', toks := tk } : Shared).heap.get? a = some o from hk a o q]; simp
/-- nothing is frozen -/
theorem St.keeps {c : Cx} {φ : Fz} {s : Shared} {pn : Pn} (S : St c φ s pn) {h' : Heap} {tk : Nat} (hk : ∀ a o, s.heap.get? a = some o → h'.get? a = some o) :
    Ext c φ s φ { s with heap := h', toks := tk } ∧ St c φ { s with heap := h', toks := tk } pn := by
  have := S.grow (h' := h') (tk := tk) (fun _ => none) hk (fun a o e => by cases e)
  simpa only [Option.none_or] using this
/-- one object is made and frozen -/
theorem St.one {c : Cx} {φ : Fz} {s : Shared} {pn : Pn} (S : St c φ s pn) {h' : Heap} {tk : Nat} {b : Addr} {ob : Obj} (hk : ∀ a o, s.heap.get? a = some o → h'.get? a = some o) (hb : h'.get? b = some ob) (hn : s.heap.get? b = none) :
    ∃ φ', φ' b = some ob ∧ Ext c φ s φ' { s with heap := h', toks := tk } ∧ St c φ' { s with heap := h', toks := tk } pn :=
  ⟨fun a => (if a = b then some ob else none).or (φ a), by simp, S.grow (fun a => if a = b then some ob else none) hk fun a o e => by
    by_cases q : a = b
    · subst q; simp at e; subst e; exact ⟨hb, hn⟩
    · simp [q] at e⟩

theorem heap_fresh (h : Heap) : h.get? h.objs.size = none := by
  cases e : h.get? h.objs.size with
  | none => rfl
  | some o => exact absurd (Heap.lt_size e) (Nat.lt_irrefl _)

/-- where a local stands -/
noncomputable def VarAt (c : Cx) (env : PySem.Env) (h : Heap) (x : Str) (v : Value) : Prop :=
  (env.kindOf x = some .local ∧ ∃ m, h.Ns env.locals m ∧ m x = some v) ∨
  ((env.kindOf x = some .cell ∨ env.kindOf x = some .free) ∧ ∃ a, env.cells.lookup x = some a ∧ some a ≠ c.p ∧ h.IsCell a (some v))

structure CellsApart (env : PySem.Env) : Prop where
  loc : ∀ x a, env.cells.lookup x = some a → a ≠ env.locals
  inj : ∀ x y a, env.cells.lookup x = some a → env.cells.lookup y = some a → x = y

structure Rd (c : Cx) (Gs : List Nat) (env : PySem.Env) (σ : Env) (φ : Fz) (h : Heap) : Prop where
  kind : env.scope.kind = .function
  glb : env.globals = mainGlobals
  blt : env.builtins = builtinsNs
  gs : ∀ g ∈ Gs, g < 1000 → env.kindOf (fnm g) = some .globalImplicit
  cl : ∀ i, 1000 + i ∈ Gs → env.kindOf (nm i) = some .cell ∨ env.kindOf (nm i) = some .free
  loc : some env.locals ≠ c.p
  apart : CellsApart env
  dom : ∀ i u, get σ i = some u → i < 56
  vars : ∀ i u, get σ i = some u → ∃ v, Is c φ u v ∧ VarAt c env h (nm i) v

theorem VarAt.keeps {c : Cx} {env : PySem.Env} {h h' : Heap} {x : Str} {v : Value} (y : VarAt c env h x v) (hl : some env.locals ≠ c.p) (hk : ∀ a o, some a ≠ c.p → h.get? a = some o → h'.get? a = some o) : VarAt c env h' x v := by
  rcases y with ⟨e, m, hn, hm⟩ | ⟨e, a, e1, e2, o, e3, e4⟩
  · exact .inl ⟨e, m, hn.at' fun o q => hk _ _ hl q, hm⟩
  · exact .inr ⟨e, a, e1, e2, o, hk _ _ e2 e3, e4⟩
theorem Rd.ext {c : Cx} {Gs : List Nat} {env : PySem.Env} {σ : Env} {φ φ' : Fz} {s s' : Shared} {pn : Pn} (R : Rd c Gs env σ φ s.heap) (S : St c φ s pn) (x : Ext c φ s φ' s') : Rd c Gs env σ φ' s'.heap :=
  ⟨R.kind, R.glb, R.blt, R.gs, R.cl, R.loc, R.apart, R.dom, fun i u e => let ⟨v, a, b⟩ := R.vars i u e; ⟨v, x.is S a, b.keeps R.loc x.keep⟩⟩

/-- what a run of an expression hands on -/
noncomputable def Post (c : Cx) (φ : Fz) (s : Shared) (K : Pn → V → Prop) (Q : Value → Shared → Prop) : Prop :=
  ∀ v u φ' s' pn', K pn' u → Ext c φ s φ' s' → St c φ' s' pn' → Is c φ' u v → Q v s'
noncomputable def PostB (c : Cx) (φ : Fz) (s : Shared) (K : Pn → Bool → Prop) (Q : Bool → Shared → Prop) : Prop :=
  ∀ b φ' s' pn', K pn' b → Ext c φ s φ' s' → St c φ' s' pn' → Q b s'
noncomputable def PostL (c : Cx) (φ : Fz) (s : Shared) (K : Pn → List V → Prop) (Q : List Value → Shared → Prop) : Prop :=
  ∀ vs us φ' s' pn', K pn' us → Ext c φ s φ' s' → St c φ' s' pn' → IsL c φ' us vs → Q vs s'

structure Room (A : Around) (r : Nat) : Prop where
  handled : A.handled = none
  depth : A.depth + 4 * r ≤ 900
  units : A.units + 64 * r ≤ 9000
theorem Room.le {A : Around} {r q : Nat} (h : Room A r) (hq : q ≤ r) : Room A q := ⟨h.handled, by have := h.depth; omega, by have := h.units; omega⟩

noncomputable def CallSpec (c : Cx) (r : Nat) (fv : Value) (D : List V → Tree V) : Prop :=
  ∀ (A : Around) (φ : Fz) (s : Shared) (pn : Pn) (us : List V) (vs : List Value) (K : Pn → V → Prop) (Q : Value → Shared → Prop) (E : Value → Shared → Prop),
    Room A r → St c φ s pn → IsL c φ us vs → (D us).All pn K → Post c φ s K Q → wpAny (model c.prog c.w) A (call fv vs []) Q E s

noncomputable def Cx.Glob (c : Cx) (g : Nat) (v : Value) : Prop := c.mg (fnm g) = some v ∨ (c.mg (fnm g) = none ∧ c.mb (fnm g) = some v)
/-- a callee that callWith calls without more -/
noncomputable def KeptBy (c : Cx) (fv : Value) : Prop := ∀ h : Heap, (∀ b o, c.base.get? b = some o → h.get? b = some o) → ∃ k, (k = Keeper.frame ∨ k = Keeper.machine ∨ k = Keeper.boundFrame) ∧ Looks (model c.prog c.w) h (keeperOf fv) k

structure FunsOk (c : Cx) (k : Nat) (F : Nat → List V → Tree V) (G : Nat → Int) : Prop where
  call : ∀ g, g < k → nameId g = true → ∃ v, c.Glob g v ∧ KeptBy c v ∧ CallSpec c k v (F g)
  const : ∀ g, constId g = true → ∃ t, c.Glob g (.int (G g) t)
  static : ∀ g, g < k → staticId g = true → ∃ f, KeptBy c f ∧ CallSpec c k f (F g) ∧ c.Glob 12 (.ref c.C) ∧
    ∀ (A : Around) (s : Shared) (pl : Sem Bool) (Q : Value × List Value → Shared → Prop) (E : Value → Shared → Prop), (∀ b o, c.base.get? b = some o → s.heap.get? b = some o) → (∀ tk, Q (f, []) { s with toks := tk }) →
      wpAny (model c.prog c.w) A (getMethod (.ref c.C) (fnm g) pl) Q E s
  meth : ∀ g, g < k → methId g = true → ∃ f, KeptBy c f ∧ CallSpec c k f (F g) ∧
    ∀ (A : Around) (φ : Fz) (s : Shared) (pn : Pn) (x m : Int) (o : Value) (pl : Sem Bool) (Q : Value × List Value → Shared → Prop) (E : Value → Shared → Prop), St c φ s pn → Is c φ (.tnum x m) o → (∀ tk, Q (f, [o]) { s with toks := tk }) →
      wpAny (model c.prog c.w) A (getMethod o (fnm g) pl) Q E s
  attr : ∀ (A : Around) (φ : Fz) (s : Shared) (pn : Pn) (x m : Int) (o : Value) (Q : Value → Shared → Prop) (E : Value → Shared → Prop), St c φ s pn → Is c φ (.tnum x m) o →
      ((∀ t tk, Q (.int x t) { s with toks := tk }) → wpAny (model c.prog c.w) A (getAttr o (Str.ofString "value") true) Q E s) ∧
      ((∀ t tk, Q (.int m t) { s with toks := tk }) → wpAny (model c.prog c.w) A (getAttr o (Str.ofString "mask") true) Q E s)

end Mine

set_option autoImplicit false
namespace Mine
open PySem PySem.W PySem.Calls PyProof.Rows PyProof

section
variable {c : Cx} {A : Around} {s : Shared} {φ : Fz} {pn : Pn} {k : Nat} {E : Value → Shared → Prop}

theorem St.tok (S : St c φ s pn) (tk : Nat) : Ext c φ s φ { s with toks := tk } ∧ St c φ { s with toks := tk } pn := S.keeps (h' := s.heap) (tk := tk) fun _ _ e => e
theorem Post.here {K : Pn → V → Prop} {Q : Value → Shared → Prop} (P : Post c φ s K Q) (S : St c φ s pn) {v : Value} {u : V} (h : K pn u) (e : Is c φ u v) : Q v s := P v u φ s pn h (Ext.refl ..) S e
theorem Post.tok {K : Pn → V → Prop} {Q : Value → Shared → Prop} (P : Post c φ s K Q) (S : St c φ s pn) (tk : Nat) {v : Value} {u : V} (h : K pn u) (e : Is c φ u v) : Q v { s with toks := tk } :=
  P v u φ _ pn h (S.tok tk).1 (S.tok tk).2 e
theorem PostB.here {K : Pn → Bool → Prop} {Q : Bool → Shared → Prop} (P : PostB c φ s K Q) (S : St c φ s pn) {b : Bool} (h : K pn b) : Q b s := P b φ s pn h (Ext.refl ..) S
theorem Post.keeps {K : Pn → V → Prop} {Q : Value → Shared → Prop} (P : Post c φ s K Q) (S : St c φ s pn) {h' : Heap} {tk : Nat} (hk : ∀ a o, s.heap.get? a = some o → h'.get? a = some o) {v : Value} {u : V} (h : K pn u) (e : Is c φ u v) : Q v { s with heap := h', toks := tk } :=
  P v u φ _ pn h (S.keeps hk).1 (S.keeps hk).2 e
/-- a new list or tuple, frozen -/
theorem Post.newList {K : Pn → V → Prop} {Q : Value → Shared → Prop} (P : Post c φ s K Q) (S : St c φ s pn) {h' : Heap} {tk : Nat} {b : Addr} {o : Obj} {n : Nat} {vs : Array Value} {us : List V} (hk : ∀ a o, s.heap.get? a = some o → h'.get? a = some o)
    (hb : h'.get? b = some o) (hc : o.cls = .type "list") (hd : o.data = .seq vs n) (hn : s.heap.get? b = none) (hz : vs.size ≤ sizeLine) (h : K pn (.list us)) (e : IsL c φ us vs.toList) : Q (.ref b) { s with heap := h', toks := tk } := by
  obtain ⟨φ', e1, e2, e3⟩ := S.one (tk := tk) hk hb hn
  refine P _ _ φ' _ pn h e2 e3 ?_
  simp only [Is]
  exact ⟨b, o, n, vs, rfl, e1, hc, hd, hz, e2.isL S e⟩
theorem Post.newTup {K : Pn → V → Prop} {Q : Value → Shared → Prop} (P : Post c φ s K Q) (S : St c φ s pn) {h' : Heap} {tk : Nat} {b : Addr} {o : Obj} {n : Nat} {vs : Array Value} {us : List V} (hk : ∀ a o, s.heap.get? a = some o → h'.get? a = some o)
    (hb : h'.get? b = some o) (hc : o.cls = .type "tuple") (hd : o.data = .seq vs n) (hn : s.heap.get? b = none) (hz : vs.size ≤ sizeLine) (h : K pn (.tup us)) (e : IsL c φ us vs.toList) : Q (.ref b) { s with heap := h', toks := tk } := by
  obtain ⟨φ', e1, e2, e3⟩ := S.one (tk := tk) hk hb hn
  refine P _ _ φ' _ pn h e2 e3 ?_
  simp only [Is]
  exact ⟨b, o, n, vs, rfl, e1, hc, hd, hz, e2.isL S e⟩

theorem is_int {i : Int} {t : Tok} : Is c φ (.int i) (.int i t) := by simp only [Is]; exact ⟨t, rfl⟩
theorem is_bool {b : Bool} : Is c φ (.bool b) (.bool b) := by simp only [Is]
theorem is_none : Is c φ .none .none := by simp only [Is]
theorem int_is {i : Int} {v : Value} (h : Is c φ (.int i) v) : ∃ t, v = .int i t := by simpa only [Is] using h
theorem bool_is {b : Bool} {v : Value} (h : Is c φ (.bool b) v) : v = .bool b := by simpa only [Is] using h
theorem none_is {v : Value} (h : Is c φ .none v) : v = .none := by simpa only [Is] using h
theorem list_is {us : List V} {v : Value} (S : St c φ s pn) (h : Is c φ (.list us) v) : ∃ a vs, v = .ref a ∧ s.heap.IsList a vs ∧ vs.size ≤ sizeLine ∧ IsL c φ us vs.toList := by
  simp only [Is] at h
  obtain ⟨a, o, n, vs, e1, e2, e3, e4, e5, e6⟩ := h
  exact ⟨a, vs, e1, ⟨o, S.sub _ _ e2, e3, n, e4⟩, e5, e6⟩
theorem tup_is {us : List V} {v : Value} (S : St c φ s pn) (h : Is c φ (.tup us) v) : ∃ a vs, v = .ref a ∧ IsTup s.heap a vs ∧ vs.size ≤ sizeLine ∧ IsL c φ us vs.toList := by
  simp only [Is] at h
  obtain ⟨a, o, n, vs, e1, e2, e3, e4, e5, e6⟩ := h
  exact ⟨a, vs, e1, ⟨o, S.sub _ _ e2, e3, n, e4⟩, e5, e6⟩
theorem St.nolimit (S : St c φ s pn) : s.heap.NoLimit := c.nolimit.keeps fun a o e => S.sub a o (S.bas a o e)
theorem St.base (S : St c φ s pn) : ∀ b o, c.base.get? b = some o → s.heap.get? b = some o := fun a o e => S.sub a o (S.bas a o e)
theorem St.K (S : St c φ s pn) : c.K.In s.heap := c.X.keeps S.base
theorem small_lt {a : Int} (h : small a = true) : a.natAbs < 2 ^ 64 := of_decide_eq_true h
theorem guard_all {α : Type} {b : Bool} {t : Tree α} {K : Pn → α → Prop} (h : (guard b t).All pn K) : b = true ∧ t.All pn K := by
  cases b with
  | true => exact ⟨rfl, h⟩
  | false => simp only [guard, Tree.All, Tree.upN, Tree.knP] at h

theorem add_listsK {l b : Addr} {vs ws : Array Value} {Q : Value → Shared → Prop} (hl : s.heap.IsList l vs) (hb : s.heap.IsList b ws) (hsz : vs.size + ws.size ≤ sizeLine)
    (h : Q (.ref s.heap.objs.size) { s with heap := s.heap.push { cls := .type "list", data := .seq (vs ++ ws) } }) : wpAny (model c.prog c.w) A (binaryOp .Add (.ref l) (.ref b)) Q E s := by
  obtain ⟨⟨cls, dd, data, sl⟩, ho, hc, n, hd⟩ := id hl
  obtain ⟨⟨cls2, dd2, data2, sl2⟩, ho2, hc2, n2, hd2⟩ := id hb
  simp only at hc hd hc2 hd2
  subst hc hd hc2 hd2
  exact concat_meets ⟨_, ho, rfl⟩ ⟨_, ho2, rfl⟩ noFill_list_add seq_list_add PySem.F.slot_list_add PySem.F.entry_list_add (PySem.F.args_list_add_2 _ _) (list_addW l b vs ws n n2 dd dd2 sl sl2 hsz) ⟨ho, ho2, h⟩

theorem push_keeps {h : Heap} {o : Obj} : ∀ a x, h.get? a = some x → (h.push o).get? a = some x := fun _ _ e => Heap.get?_push_of_some _ e

theorem sizeLine_is : sizeLine = 16777216 := rfl

theorem op_ok {op : Operator} {u u' : V} {a b : Value} {K : Pn → V → Prop} {Q : Value → Shared → Prop} (R : Room A k) (S : St c φ s pn) (ha : Is c φ u a) (hb : Is c φ u' b)
    (h : (opV op u u').All pn K) (P : Post c φ s K Q) : wpAny (model c.prog c.w) A (binaryOp op a b) Q E s := by
  have iv : ∀ {f : Int → Int → Tree V}, (ii f u u').All pn K → ∃ x y t t', a = .int x t ∧ b = .int y t' ∧ (f x y).All pn K := fun {f} h => by
    obtain ⟨x, y, rfl, rfl, h⟩ := ii_inv h
    obtain ⟨t, rfl⟩ := int_is ha
    obtain ⟨t', rfl⟩ := int_is hb
    exact ⟨x, y, t, t', rfl, rfl, h⟩
  cases op with
  | Add =>
    rcases plusV_inv (show (plusV u u').All pn K from h) with ⟨x, y, rfl, rfl, h⟩ | ⟨xs, ys, rfl, rfl, h⟩
    · obtain ⟨t, rfl⟩ := int_is ha
      obtain ⟨t', rfl⟩ := int_is hb
      exact PyProof.Rows.add_int (P.tok S _ h is_int)
    · obtain ⟨h1, h2⟩ := guard_all h
      obtain ⟨l, vs, rfl, hl, _, el⟩ := list_is S ha
      obtain ⟨l', vs', rfl, hl', _, el'⟩ := list_is S hb
      have hz := of_decide_eq_true h1
      have z1 := el.length
      have z2 := el'.length
      simp only [Array.length_toList] at z1 z2
      have hz' : vs.size + vs'.size ≤ sizeLine := by rw [sizeLine_is]; omega
      exact add_listsK hl hl' hz' (P.newList S push_keeps (Heap.get?_push_size _ rfl) rfl rfl (heap_fresh _) (by rw [Array.size_append]; exact hz') h2 (by rw [Array.toList_append]; exact el.append el'))
  | Sub =>
    obtain ⟨x, y, t, t', rfl, rfl, h⟩ := iv h
    exact PyProof.Rows.sub_int (P.tok S _ h is_int)
  | Mult =>
    obtain ⟨x, y, t, t', rfl, rfl, h⟩ := iv h
    obtain ⟨h1, h2⟩ := guard_all h
    refine PyProof.Rows.mul_int (P.tok S _ h2 is_int) ?_
    rcases Bool.or_eq_true_iff.mp h1 with h1 | h1
    · exact IntMulOk.of_left (intBits_le (small_lt h1))
    · exact IntMulOk.of_right (intBits_le (small_lt h1))
  | FloorDiv =>
    obtain ⟨x, y, t, t', rfl, rfl, h⟩ := iv h
    obtain ⟨h1, h2⟩ := guard_all h
    obtain ⟨h0, h1⟩ := Bool.and_eq_true_iff.mp h1
    have h0 := bne_iff_ne.mp h0
    exact PyProof.Rows.floordiv_int h0 (P.tok S _ h2 is_int) (.inl (noPylong_of_log2 (Nat.lt_of_lt_of_le ((Nat.log2_lt (by omega)).mpr (of_decide_eq_true h1)) (by decide))))
  | Mod =>
    obtain ⟨x, y, t, t', rfl, rfl, h⟩ := iv h
    obtain ⟨h1, h2⟩ := guard_all h
    exact PyProof.Rows.mod_int' (by simpa using h1) (P.tok S _ h2 is_int)
  | Pow =>
    obtain ⟨x, y, t, t', rfl, rfl, h⟩ := iv h
    obtain ⟨h1, h2⟩ := guard_all h
    simp only [Bool.and_eq_true, decide_eq_true_eq] at h1
    exact PyProof.Rows.pow_int_small h1.1.1 h1.1.2 (small_lt h1.2) (P.tok S _ h2 is_int)
  | LShift =>
    obtain ⟨x, y, t, t', rfl, rfl, h⟩ := iv h
    obtain ⟨h1, h2⟩ := guard_all h
    simp only [Bool.and_eq_true, decide_eq_true_eq] at h1
    exact PyProof.Rows.lshift_int_small h1.1.1 h1.1.2 (small_lt h1.2) (P.tok S _ h2 is_int)
  | RShift =>
    obtain ⟨x, y, t, t', rfl, rfl, h⟩ := iv h
    obtain ⟨h1, h2⟩ := guard_all h
    exact PyProof.Rows.rshift_int (of_decide_eq_true h1) (P.tok S _ h2 is_int)
  | BitAnd =>
    obtain ⟨x, y, t, t', rfl, rfl, h⟩ := iv h
    exact PyProof.Rows.and_int (P.tok S _ h is_int)
  | BitOr =>
    obtain ⟨x, y, t, t', rfl, rfl, h⟩ := iv h
    exact PyProof.Rows.or_int (P.tok S _ h is_int)
  | BitXor =>
    obtain ⟨x, y, t, t', rfl, rfl, h⟩ := iv h
    exact PyProof.Rows.xor_int (P.tok S _ h is_int)
  | MatMult => exact False.elim h
  | Div => exact False.elim h

theorem truthy_ok {u : V} {a : Value} {K : Pn → Bool → Prop} {Q : Bool → Shared → Prop} (S : St c φ s pn) (ha : Is c φ u a) (h : (truthyV u).All pn K) (P : PostB c φ s K Q) :
    wpAny (model c.prog c.w) A (truthy a) Q E s := by
  unfold truthyV at h
  split at h
  · cases bool_is ha; exact wpAny_truthy_bool (P.here S h)
  · obtain ⟨t, rfl⟩ := int_is ha; exact PyProof.Rows.truthy_int (P.here S h)
  · simp only [Tree.All, Tree.upN, Tree.knP] at h

/- plain data, as the library's own -/
theorem ints_are : ∀ {us : List V} {vs : List Value} {ns : List Int}, IsL c φ us vs → intsOf us = some ns → IntsAre vs ns
  | [], [], ns, _, e => by simp only [intsOf, Option.some.injEq] at e; subst e; exact .nil
  | .int i :: us, v :: vs, ns, d, e => by
    simp only [intsOf, Option.map_eq_some_iff] at e
    obtain ⟨ms, e1, rfl⟩ := e
    obtain ⟨t, rfl⟩ := int_is d.1
    exact .cons _ _ (ints_are d.2 e1)
  | .none :: _, _, _, _, e => by simp [intsOf] at e
  | .bool _ :: _, _, _, _, e => by simp [intsOf] at e
  | .list _ :: _, _, _, _, e => by simp [intsOf] at e
  | .tup _ :: _, _, _, _, e => by simp [intsOf] at e
  | .rng _ _ :: _, _, _, _, e => by simp [intsOf] at e
  | .tnum _ _ :: _, _, _, _, e => by simp [intsOf] at e
  | .pen :: _, _, _, _, e => by simp [intsOf] at e
  | [], _ :: _, _, d, _ => by simp only [IsL] at d
  | .int _ :: _, [], _, d, _ => by simp only [IsL] at d
end
end Mine

set_option autoImplicit false
namespace Mine
open PySem PySem.W PySem.Calls PyProof.Rows PyProof

section
variable {c : Cx} {A : Around} {s : Shared} {φ : Fz} {pn : Pn} {k : Nat} {E : Value → Shared → Prop}

noncomputable def sD : V → PyData
  | .bool b => .bool b
  | .int i => .int i
  | _ => .none
theorem eqS_D {a b : V} {x : Bool} (h : eqS a b = some x) : PyData.eqv (sD a) (sD b) = x := by
  unfold eqS at h
  split at h <;> simp_all [sD, PyData.eqv]
theorem eqL_D : ∀ {xs ys : List V} {x : Bool}, eqL xs ys = some x → PyData.eqvAll (xs.map sD) (ys.map sD) = x
  | [], [], _, h => by simpa [eqL, PyData.eqvAll] using h
  | [], _ :: _, _, h => by simpa [eqL, PyData.eqvAll] using h
  | _ :: _, [], _, h => by simpa [eqL, PyData.eqvAll] using h
  | a :: r, b :: t, x, h => by
    simp only [eqL] at h
    split at h
    · rename_i y z e1 e2
      cases h
      simp only [List.map_cons, PyData.eqvAll, eqS_D e1, eqL_D e2]
    · cases h
theorem scal_lay : ∀ {a : V}, scal a = true → PyData.canLay0 (sD a) = true ∧ PyData.depth (sD a) = 0
  | .none, _ => by simp [sD, PyData.canLay0, PyData.depth]
  | .bool _, _ => by simp [sD, PyData.canLay0, PyData.depth]
  | .int _, _ => by simp [sD, PyData.canLay0, PyData.depth]
theorem scal_layAll : ∀ {xs : List V}, xs.all scal = true → PyData.canLayAll0 (xs.map sD) = true ∧ PyData.depthAll (xs.map sD) = 0
  | [], _ => by simp [PyData.canLayAll0, PyData.depthAll]
  | a :: r, h => by
    simp only [List.all_cons, Bool.and_eq_true] at h
    have h1 := scal_lay h.1
    have h2 := scal_layAll h.2
    simp [PyData.canLayAll0, PyData.depthAll, h1, h2]
theorem scal_reads {h : Heap} {a : V} {v : Value} (hs : scal a = true) (e : Is c φ a v) : Reads h v (sD a) [] := by
  cases a with
  | none => cases none_is e; exact .none
  | bool b => cases bool_is e; exact .bool _
  | int i => obtain ⟨t, rfl⟩ := int_is e; exact .int _ _
  | _ => exact absurd hs Bool.false_ne_true
theorem scal_readsAll {h : Heap} : ∀ {xs : List V} {vs : List Value}, xs.all scal = true → IsL c φ xs vs → ReadsAll h vs (xs.map sD) []
  | [], [], _, _ => .nil
  | a :: r, v :: vs, e, d => by
    simp only [List.all_cons, Bool.and_eq_true] at e
    exact ReadsAll.cons (as := []) (bs := []) (scal_reads e.1 d.1) (scal_readsAll e.2 d.2)
  | [], _ :: _, _, d => by simp only [IsL] at d
  | _ :: _, [], _, d => by simp only [IsL] at d
theorem scal_shaped {a : V} (h : scal a = true) : SeqAt.shaped (sD a) = true := by
  have := scal_lay h
  simp [SeqAt.shaped, this]
theorem scal_shapedT {xs : List V} (h : xs.all scal = true) : SeqAt.shaped (.tuple (xs.map sD)) = true := by
  have := scal_layAll h
  simp [SeqAt.shaped, PyData.canLay0, PyData.depth, this]

theorem Room.units64 {A : Around} {k : Nat} (R : Room A k) : A.units + 64 < cLine := by have := R.units; simp only [cLine]; omega

theorem eqS_scal {a b : V} {x : Bool} (h : eqS a b = some x) : scal a = true ∧ scal b = true := by
  unfold eqS at h
  split at h <;> simp_all [scal]

theorem eq_ok {u u' : V} {a b : Value} {x : Bool} {Q : Value → Shared → Prop} (R : Room A k) (S : St c φ s pn) (ha : Is c φ u a) (hb : Is c φ u' b) (h : eqV u u' = some x) (P : Q (.bool x) s) :
    wpAny (model c.prog c.w) A (compareOp .Eq a b) Q E s := by
  unfold eqV at h
  split at h
  · split at h
    · rename_i xs ys q
      simp only [Bool.and_eq_true] at q
      simp only [Is] at ha hb
      obtain ⟨l, o, n, vs, rfl, e2, e3, e4, _, el⟩ := ha
      obtain ⟨l', o', n', vs', rfl, e2', e3', e4', _, el'⟩ := hb
      exact eq_dataH (.tuple (S.sub _ _ e2) e3 e4 (scal_readsAll q.1 el)) (.tuple (S.sub _ _ e2') e3' e4' (scal_readsAll q.2 el')) (scal_shapedT q.1) (scal_shapedT q.2) R.units64 (by simp only [PyData.eqv]; rw [eqL_D h]; exact P)
    · cases h
  · split at h
    · rename_i xs ys _ _ ns ms e1 e2
      cases h
      obtain ⟨l, vs, rfl, hl, _, el⟩ := list_is S ha
      obtain ⟨l', vs', rfl, hl', _, el'⟩ := list_is S hb
      exact ke_eq_ints (xs := vs.toList) (ys := vs'.toList) hl hl' (ints_are el e1) (ints_are el' e2) R.units64 P
    · cases h
  · obtain ⟨q1, q2⟩ := eqS_scal h
    exact eq_dataH (scal_reads q1 ha) (scal_reads q2 hb) (scal_shaped q1) (scal_shaped q2) R.units64 (by rw [eqS_D h]; exact P)
theorem ne_ok {u u' : V} {a b : Value} {x : Bool} {Q : Value → Shared → Prop} (R : Room A k) (S : St c φ s pn) (ha : Is c φ u a) (hb : Is c φ u' b) (h : eqV u u' = some x) (P : Q (.bool (!x)) s) :
    wpAny (model c.prog c.w) A (compareOp .NotEq a b) Q E s := by
  unfold eqV at h
  split at h
  · split at h
    · rename_i xs ys q
      simp only [Bool.and_eq_true] at q
      simp only [Is] at ha hb
      obtain ⟨l, o, n, vs, rfl, e2, e3, e4, _, el⟩ := ha
      obtain ⟨l', o', n', vs', rfl, e2', e3', e4', _, el'⟩ := hb
      exact ne_dataH (.tuple (S.sub _ _ e2) e3 e4 (scal_readsAll q.1 el)) (.tuple (S.sub _ _ e2') e3' e4' (scal_readsAll q.2 el')) (scal_shapedT q.1) (scal_shapedT q.2) R.units64 (by simp only [PyData.eqv]; rw [eqL_D h]; exact P)
    · cases h
  · split at h
    · rename_i xs ys _ _ ns ms e1 e2
      cases h
      obtain ⟨l, vs, rfl, hl, _, el⟩ := list_is S ha
      obtain ⟨l', vs', rfl, hl', _, el'⟩ := list_is S hb
      exact ke_ne_ints (xs := vs.toList) (ys := vs'.toList) hl hl' (ints_are el e1) (ints_are el' e2) R.units64 P
    · cases h
  · obtain ⟨q1, q2⟩ := eqS_scal h
    exact ne_dataH (scal_reads q1 ha) (scal_reads q2 hb) (scal_shaped q1) (scal_shaped q2) R.units64 (by rw [eqS_D h]; exact P)

theorem optT_all {α : Type} {x : Option α} {K : Pn → α → Prop} (h : (optT x).All pn K) : ∃ a, x = some a ∧ K pn a := by
  cases x with
  | none => simp only [optT, Tree.All, Tree.upN, Tree.knP] at h
  | some a => exact ⟨a, rfl, h⟩

theorem cmp_ok {op : CmpOp} {u u' : V} {a b : Value} {K : Pn → Bool → Prop} {Q : Value → Shared → Prop} (R : Room A k) (S : St c φ s pn) (ha : Is c φ u a) (hb : Is c φ u' b)
    (h : (cmpV op u u').All pn K) (P : ∀ x, K pn x → Q (.bool x) s) : wpAny (model c.prog c.w) A (compareOp op a b) Q E s := by
  unfold cmpV at h
  split at h
  · obtain ⟨t, rfl⟩ := int_is ha; obtain ⟨t', rfl⟩ := int_is hb; exact PyProof.Rows.lt_int (P _ h)
  · obtain ⟨t, rfl⟩ := int_is ha; obtain ⟨t', rfl⟩ := int_is hb; exact PyProof.Rows.le_int (P _ h)
  · obtain ⟨t, rfl⟩ := int_is ha; obtain ⟨t', rfl⟩ := int_is hb; exact PyProof.Rows.gt_int (P _ h)
  · obtain ⟨t, rfl⟩ := int_is ha; obtain ⟨t', rfl⟩ := int_is hb; exact PyProof.Rows.ge_int (P _ h)
  · obtain ⟨x, e, hk⟩ := optT_all h
    exact eq_ok R S ha hb e (P _ hk)
  · obtain ⟨x, e, hk⟩ := optT_all h
    obtain ⟨y, e2, rfl⟩ := Option.map_eq_some_iff.mp e
    exact ne_ok R S ha hb e2 (P _ hk)
  · split at h
    · rename_i ns e
      obtain ⟨t, rfl⟩ := int_is ha
      obtain ⟨l, vs, rfl, hl, _, el⟩ := list_is S hb
      exact in_list_ints (vs := vs.toList) hl (ints_are el e) (P _ h)
    · simp only [Tree.All, Tree.upN, Tree.knP] at h
  · simp only [Tree.All, Tree.upN, Tree.knP] at h
end
end Mine

set_option autoImplicit false
namespace Mine
open PySem PySem.W PySem.Calls PyProof.Rows PyProof

theorem nm_plain (i : Nat) : (nm i == ("__debug__" : Str)) = false ∧ (nm i == ("__classdict__" : Str)) = false := by
  have h : nms.all (fun x => !(Str.ofString x == ("__debug__" : Str)) && !(Str.ofString x == ("__classdict__" : Str))) = true := by decide +kernel
  by_cases hi : i < nms.length
  · have := List.all_eq_true.mp h (nms.getD i "") (by rw [List.getD_eq_getElem?_getD, List.getElem?_eq_getElem hi]; exact List.getElem_mem hi)
    simpa [nm] using this
  · have e : nms.getD i "" = "" := by rw [List.getD_eq_getElem?_getD, List.getElem?_eq_none (by omega)]; rfl
    unfold nm; rw [e]; decide +kernel
theorem fnm_plain (i : Nat) : (fnm i == ("__debug__" : Str)) = false ∧ fnm i ≠ ("super" : Str) := by
  have h : fns.all (fun x => !(Str.ofString x == ("__debug__" : Str)) && decide (Str.ofString x ≠ ("super" : Str))) = true := by decide +kernel
  by_cases hi : i < fns.length
  · have := List.all_eq_true.mp h (fns.getD i "") (by rw [List.getD_eq_getElem?_getD, List.getElem?_eq_getElem hi]; exact List.getElem_mem hi)
    simpa [fnm] using this
  · have e : fns.getD i "" = "" := by rw [List.getD_eq_getElem?_getD, List.getElem?_eq_none (by omega)]; rfl
    unfold fnm; rw [e]; decide +kernel

theorem nameId_lt {f : Nat} (h : nameId f = true) : f < 1000 := by
  simp only [nameId, Bool.and_eq_true] at h
  have := Nat.blt_eq.mp h.2
  omega
noncomputable def SE (c : Cx) (k : Nat) (F : Nat → List V → Tree V) (G : Nat → Int) (n : Nat) : Prop :=
  ∀ (m : Nat) (Gs : List Nat) (e : PySem.Expr) (x : X), chkE k m Gs e x = true → ∀ (A : Around) (env : PySem.Env) (σ : Env) (φ : Fz) (s : Shared) (pn : Pn) (K : Pn → V → Prop) (Q : Value → Shared → Prop) (E : Value → Shared → Prop),
    Room A k → St c φ s pn → Rd c Gs env σ φ s.heap → (ev F G n σ x).All pn K → Post c φ s K Q → wpAny (model c.prog c.w) A (eval e env) Q E s
noncomputable def STt (c : Cx) (k : Nat) (F : Nat → List V → Tree V) (G : Nat → Int) (n : Nat) : Prop :=
  ∀ (m : Nat) (Gs : List Nat) (e : PySem.Expr) (x : X), chkE k m Gs e x = true → ∀ (A : Around) (env : PySem.Env) (σ : Env) (φ : Fz) (s : Shared) (pn : Pn) (K : Pn → Bool → Prop) (Q : Bool → Shared → Prop) (E : Value → Shared → Prop),
    Room A k → St c φ s pn → Rd c Gs env σ φ s.heap → (tv F G n σ x).All pn K → PostB c φ s K Q → wpAny (model c.prog c.w) A (isTrue e env (eval e env)) Q E s

section
variable {c : Cx} {A : Around} {s : Shared} {φ : Fz} {pn : Pn} {k m n : Nat} {E : Value → Shared → Prop} {env : PySem.Env} {σ : Env} {Gs : List Nat} {F : Nat → List V → Tree V} {G : Nat → Int}

theorem Post.after {K : Pn → V → Prop} {Q : Value → Shared → Prop} {φ' : Fz} {s' : Shared} (P : Post c φ s K Q) (x : Ext c φ s φ' s') : Post c φ' s' K Q :=
  fun v u φ'' s'' pn'' h y S e => P v u φ'' s'' pn'' h (x.trans y) S e
theorem PostB.after {K : Pn → Bool → Prop} {Q : Bool → Shared → Prop} {φ' : Fz} {s' : Shared} (P : PostB c φ s K Q) (x : Ext c φ s φ' s') : PostB c φ' s' K Q :=
  fun v φ'' s'' pn'' h y S => P v φ'' s'' pn'' h (x.trans y) S
theorem PostL.after {K : Pn → List V → Prop} {Q : List Value → Shared → Prop} {φ' : Fz} {s' : Shared} (P : PostL c φ s K Q) (x : Ext c φ s φ' s') : PostL c φ' s' K Q :=
  fun v u φ'' s'' pn'' h y S e => P v u φ'' s'' pn'' h (x.trans y) S e

theorem var_ok {i : Nat} {u : V} {pos : Pos} {Q : Value → Shared → Prop} (R : Rd c Gs env σ φ s.heap) (h : get σ i = some u) (P : ∀ v, Is c φ u v → Q v s) :
    wpAny (model c.prog c.w) A (eval (.Name (nm i) pos) env) Q E s := by
  obtain ⟨v, hv, hat⟩ := R.vars i u h
  refine wpAny_Name ?_ (nm_plain i).1
  rcases hat with ⟨e, m, hn, hm⟩ | ⟨e, a, e1, _, e2⟩
  · exact wpAny_loadName_local R.kind e hn hm (P v hv)
  · rcases e with e | e
    · exact wpAny_loadName_cell R.kind e e1 e2 (P v hv)
    · exact wpAny_loadName_free R.kind e e1 e2 (P v hv) (nm_plain i).2
theorem glob_ok {g : Nat} {pos : Pos} {v : Value} {Q : Value → Shared → Prop} (S : St c φ s pn) (R : Rd c Gs env σ φ s.heap) (hg : g ∈ Gs) (hlt : g < 1000) (hv : c.Glob g v) (P : Q v s) :
    wpAny (model c.prog c.w) A (eval (.Name (fnm g) pos) env) Q E s := by
  refine Name_function_global R.kind (R.gs g hg hlt) ?_ (fnm_plain g).1
  rcases hv with e | ⟨e1, e2⟩
  · exact loadGlobal_global (by rw [R.glb]; exact c.G.keeps S.base) e P
  · exact loadGlobal_builtin (by rw [R.glb]; exact c.G.keeps S.base) e1 (by rw [R.blt]; exact c.B.keeps S.base) e2 P

/-- an expression in which the model folds nothing -/
structure Calm (env : PySem.Env) (e : PySem.Expr) : Prop where
  star : ∀ rest, starEach (e :: rest) env = (false, eval e env) :: starEach rest env
  marks : ∀ op, behindInMarks op e = false
  set : ∀ v, foldedSetIterable e env v = pure v
  sub : ∀ o i, subscripted e false o i = operate [o, i] (getItem o i)
theorem calm {e : PySem.Expr} {x : X} (h : CE e x) : Calm env e := by
  induction h <;> exact ⟨fun r => Eq.refl (starEach (_ :: r) env), fun o => Eq.refl (behindInMarks o _), fun v => Eq.refl (foldedSetIterable _ env v), fun o i => Eq.refl (subscripted _ false o i)⟩
theorem not_starred {e : PySem.Expr} {x : X} (h : chkE k m Gs e x = true) (rest : List PySem.Expr) : starEach (e :: rest) env = (false, eval e env) :: starEach rest env := (calm (ce_of h)).star rest
noncomputable def NoSuper (env : PySem.Env) (e : PySem.Expr) : Prop := ∀ attr whole, attributeBase e attr env whole = whole
theorem super_call {s : Str} {q p : Pos} {args : List PySem.Expr} (hne : (s != ("super" : Str)) = true) : NoSuper env (.Call (.Name s q) args [] p) := fun attr whole => by
  cases args with
  | cons => rfl
  | nil =>
    unfold attributeBase
    dsimp only
    rw [hne]
    rfl
theorem not_super0 {e : PySem.Expr} {x : X} (h : chkE k m Gs e x = true) : NoSuper env e := by
  have hc := ce_of h
  induction hc with
  | call f args s q args' p =>
    cases m with
    | zero => exact no h
    | succ m => exact super_call (bne_iff_ne.mpr (and6k h fun h1 _ _ _ _ _ => eq_of_strEq h1 ▸ (fnm_plain _).2))
  | _ => exact fun a w => Eq.refl (attributeBase _ a env w)
theorem not_super {e : PySem.Expr} {x : X} (h : chkE k m Gs e x = true) (attr : Str) (whole : Sem Value) : attributeBase e attr env whole = whole := not_super0 h attr whole

theorem evL_ok (IH : SE c k F G n) : ∀ (xs : List X) (es : List PySem.Expr), chkL (chkE k m Gs) es xs = true → ∀ (φ : Fz) (s : Shared) (pn : Pn) (pos : Pos) (K : Pn → List V → Prop) (Q : List Value → Shared → Prop), Room A k → St c φ s pn → Rd c Gs env σ φ s.heap →
    (evL (ev F G n σ) xs).All pn K → PostL c φ s K Q → wpAny (model c.prog c.w) A (spliced (backTo pos (starEach es env))) Q E s
  | [], es, hc, φ, s, pn, pos, K, Q, _, S, _, h, P => inNil (M := fun es => wpAny (model c.prog c.w) A (spliced (backTo pos (starEach es env))) Q E s) (fun _ => spliced_nil (P [] [] φ s pn h (Ext.refl ..) S trivial)) hc
  | x :: xs, es, hc, φ, s, pn, pos, K, Q, R, S, D, h, P => inCons (M := fun es => wpAny (model c.prog c.w) A (spliced (backTo pos (starEach es env))) Q E s) (fun e es hc => and2k hc fun h1 h2 => by
    rw [not_starred h1]
    have h := Tree.all_bind _ _ h
    refine spliced_cons (IH m Gs e x h1 A env σ φ s pn _ _ E R S D h fun v u φ₁ s₁ pn₁ h₁ x₁ S₁ i₁ => ?_)
    have h₁ := Tree.all_bind _ _ h₁
    exact evL_ok IH xs es h2 φ₁ s₁ pn₁ pos _ _ R S₁ (D.ext S x₁) h₁ fun vs us φ₂ s₂ pn₂ h₂ x₂ S₂ i₂ => P _ _ φ₂ s₂ pn₂ h₂ (x₁.trans x₂) S₂ ⟨x₂.is S₁ i₁, i₂⟩) hc

theorem unstarred : ∀ (xs : List X) (es : List PySem.Expr), chkL (chkE k m Gs) es xs = true → ∀ pos, (backTo pos (starEach es env)).any (·.1) = false ∧ (backTo pos (starEach es env)).all (!·.1) = true
  | [], es, hc, pos => inNil (M := fun es => (backTo pos (starEach es env)).any (·.1) = false ∧ (backTo pos (starEach es env)).all (!·.1) = true) (fun _ => ⟨rfl, rfl⟩) hc
  | x :: xs, es, hc, pos => inCons (M := fun es => (backTo pos (starEach es env)).any (·.1) = false ∧ (backTo pos (starEach es env)).all (!·.1) = true) (fun e es hc => and2k hc fun h1 h2 => by
    rw [not_starred h1]
    exact unstarred xs es h2 pos) hc

theorem evalArgs_ok (IH : SE c k F G n) {es : List PySem.Expr} {xs : List X} {fv : Value} {pos : Pos} {K : Pn → List V → Prop} {Q : Args → Shared → Prop} (hc : chkL (chkE k m Gs) es xs = true) (R : Room A k) (S : St c φ s pn) (D : Rd c Gs env σ φ s.heap)
    (h : (evL (ev F G n σ) xs).All pn K) (P : PostL c φ s K (fun vs s' => Q ⟨vs, []⟩ s')) : wpAny (model c.prog c.w) A (evalArgs fv true (backTo pos (starEach es env)) []) Q E s := by
  have this := evL_ok (E := E) IH xs es hc φ s pn pos K (fun vs s' => Q ⟨vs, []⟩ s') R S D h P
  cases es with
  | nil =>
    cases xs with
    | nil => exact evalArgs_nil3 (P [] [] φ s pn h (Ext.refl ..) S trivial)
    | cons _ _ => exact no hc
  | cons e es =>
    cases xs with
    | nil => exact no hc
    | cons x xs =>
      rw [not_starred (and2k hc fun h1 _ => h1)] at this ⊢
      exact evalArgs_plain this

theorem callWith_ok (IH : SE c k F G n) {es : List PySem.Expr} {xs : List X} {fv : Value} {first : List Value} {fu : List V} {D : List V → Tree V} {pos : Pos} {K : Pn → V → Prop} {Q : Value → Shared → Prop} (hc : chkL (chkE k m Gs) es xs = true) (R : Room A k) (S : St c φ s pn) (D' : Rd c Gs env σ φ s.heap)
    (hk : KeptBy c fv) (hs : CallSpec c k fv D) (hf : IsL c φ fu first) (h : ((evL (ev F G n σ) xs).bind fun us => D (fu ++ us)).All pn K) (P : Post c φ s K Q) :
    wpAny (model c.prog c.w) A (callWith pos fv first (backTo pos (starEach es env)) []) Q E s := by
  have hu := unstarred (env := env) xs es hc pos
  refine callWith_of (P := fun h => ∀ b o, c.base.get? b = some o → h.get? b = some o) (by rw [hu.1]; rfl) hk ?_
  refine evalArgs_ok IH hc R S D' (Tree.all_bind _ _ h) fun vs us φ₁ s₁ pn₁ h₁ x₁ S₁ i₁ => ⟨S₁.base, ?_⟩
  exact hs A φ₁ s₁ pn₁ (fu ++ us) (first ++ vs) _ _ E R S₁ ((x₁.isL S hf).append i₁) h₁ (P.after x₁)

theorem call_ok (FO : FunsOk c k F G) (IH : SE c k F G n) {f : Nat} {es : List PySem.Expr} {xs : List X} {p pos : Pos} {K : Pn → V → Prop} {Q : Value → Shared → Prop} (hg : f ∈ Gs) (hk : f < k) (hn : nameId f = true) (hc : chkL (chkE k m Gs) es xs = true)
    (R : Room A k) (S : St c φ s pn) (D : Rd c Gs env σ φ s.heap) (h : ((evL (ev F G n σ) xs).bind (F f)).All pn K) (P : Post c φ s K Q) : wpAny (model c.prog c.w) A (eval (.Call (.Name (fnm f) p) es [] pos) env) Q E s := by
  obtain ⟨v, g1, g2, g3⟩ := FO.call f hk hn
  refine wpAny_Call_Name_kw (glob_ok S D hg (nameId_lt hn) g1 ?_)
  exact callWith_ok IH hc R S D g2 g3 (fu := []) trivial h P

theorem value_ok (FO : FunsOk c k F G) (IH : SE c k F G n) {e : PySem.Expr} {x : X} {pos : Pos} {K : Pn → V → Prop} {Q : Value → Shared → Prop} (hc : chkE k m Gs e x = true) (R : Room A k) (S : St c φ s pn) (D : Rd c Gs env σ φ s.heap)
    (h : ((ev F G n σ x).bind fun v => match v with | .tnum a _ => .ret (.int a) | _ => .fail).All pn K) (P : Post c φ s K Q) : wpAny (model c.prog c.w) A (eval (.Attribute e (Str.ofString "value") pos) env) Q E s := by
  have he : eval (.Attribute e (Str.ofString "value") pos) env = (do
      let o ← attributeBase e (Str.ofString "value") env (eval e env)
      standAt pos.atName
      let r ← holding [o] (getAttr o (Str.ofString "value") true)
      letTemporaryGo e o r
      pure r) := by with_unfolding_all rfl
  rw [he, not_super hc]
  refine wpAny_bind (IH m Gs e x hc A env σ φ s pn _ _ E R S D (Tree.all_bind _ _ h) fun v u φ₁ s₁ pn₁ h₁ x₁ S₁ i₁ => ?_)
  split at h₁
  · rename_i a b
    refine wpAny_bind (wpAny_standAt (wpAny_bind (wpAny_holding ((FO.attr A φ₁ s₁ pn₁ a b v _ E S₁ i₁).1 fun t tk => ?_))))
    exact wpAny_bind (wpAny_letTemporaryGo (wpAny_pure (P.after x₁ |>.tok S₁ tk h₁ is_int)))
  · simp only [Tree.All, Tree.upN, Tree.knP] at h₁
theorem mask_ok (FO : FunsOk c k F G) (IH : SE c k F G n) {e : PySem.Expr} {x : X} {pos : Pos} {K : Pn → V → Prop} {Q : Value → Shared → Prop} (hc : chkE k m Gs e x = true) (R : Room A k) (S : St c φ s pn) (D : Rd c Gs env σ φ s.heap)
    (h : ((ev F G n σ x).bind fun v => match v with | .tnum _ b => .ret (.int b) | _ => .fail).All pn K) (P : Post c φ s K Q) : wpAny (model c.prog c.w) A (eval (.Attribute e (Str.ofString "mask") pos) env) Q E s := by
  have he : eval (.Attribute e (Str.ofString "mask") pos) env = (do
      let o ← attributeBase e (Str.ofString "mask") env (eval e env)
      standAt pos.atName
      let r ← holding [o] (getAttr o (Str.ofString "mask") true)
      letTemporaryGo e o r
      pure r) := by with_unfolding_all rfl
  rw [he, not_super hc]
  refine wpAny_bind (IH m Gs e x hc A env σ φ s pn _ _ E R S D (Tree.all_bind _ _ h) fun v u φ₁ s₁ pn₁ h₁ x₁ S₁ i₁ => ?_)
  split at h₁
  · rename_i a b
    refine wpAny_bind (wpAny_standAt (wpAny_bind (wpAny_holding ((FO.attr A φ₁ s₁ pn₁ a b v _ E S₁ i₁).2 fun t tk => ?_))))
    exact wpAny_bind (wpAny_letTemporaryGo (wpAny_pure (P.after x₁ |>.tok S₁ tk h₁ is_int)))
  · simp only [Tree.All, Tree.upN, Tree.knP] at h₁

theorem keyword_nil {pos : Pos} : backToKw pos (keywordEach [] env) = [] := rfl
theorem methodCall_open {o : PySem.Expr} {name : Str} {apos pos : Pos} {args : List PySem.Expr} {Q : Value → Shared → Prop} (hs : ∀ whole, attributeBase o name env whole = whole) (hall : (backTo pos (starEach args env)).all (!·.1) = true) (hlen : args.length < 20) (hline : apos.endLine = pos.line)
    (h : wpAny (model c.prog c.w) A (eval o env) (fun ov s₁ => wpAny (model c.prog c.w) A (getMethod ov name (do return (← importBound o env).getD true)) (fun r s₂ => wpAny (model c.prog c.w) A (callWith pos r.1 r.2 (backTo pos (starEach args env)) []) Q E s₂) E s₁) E s) :
    wpAny (model c.prog c.w) A (eval (.Call (.Attribute o name apos) args [] pos) env) Q E s := by
  rw [arm_eval_Call, hs]
  refine wpAny_bind (wpAny_mono h (fun ov s₁ h₁ => wpAny_bind (wpAny_standAt ?_)) fun _ _ e => e)
  have hform : methodCallForm (args.length + ([] : List Keyword).length) (backTo pos (starEach args env)) (backToKw pos (keywordEach [] env)) = true := by
    unfold methodCallForm
    rw [hall, keyword_nil]
    simp; omega
  have hpos : methodCallPos true o env apos pos = pure pos := by unfold methodCallPos; simp [hline]
  unfold methodCall
  rw [hform]
  refine wpAny_bind (wpAny_holding (wpAny_mono (show wpAny _ _ (calleeOf true o env ov name) _ _ _ from h₁) (fun r s₂ h₂ => ?_) fun _ _ e => e))
  obtain ⟨f, first⟩ := r
  exact wpAny_bind (wpAny_of_eq hpos h₂)

theorem meth_ok (FO : FunsOk c k F G) (IH : SE c k F G n) {f : Nat} {o : PySem.Expr} {x : X} {es : List PySem.Expr} {xs : List X} {ap pos : Pos} {K : Pn → V → Prop} {Q : Value → Shared → Prop} (hk : f < k) (hn : methId f = true) (ho : chkE k m Gs o x = true) (hc : chkL (chkE k m Gs) es xs = true) (hl : es.length < 20) (hline : ap.endLine = pos.line)
    (R : Room A k) (S : St c φ s pn) (D : Rd c Gs env σ φ s.heap)
    (h : ((ev F G n σ x).bind fun v => match v with | .tnum a b => (evL (ev F G n σ) xs).bind fun vs => F f (.tnum a b :: vs) | _ => .fail).All pn K) (P : Post c φ s K Q) :
    wpAny (model c.prog c.w) A (eval (.Call (.Attribute o (fnm f) ap) es [] pos) env) Q E s := by
  obtain ⟨fv, g1, g2, g3⟩ := FO.meth f hk hn
  refine methodCall_open (fun _ => not_super ho _ _) (unstarred xs es hc pos).2 hl hline ?_
  refine IH m Gs o x ho A env σ φ s pn _ _ E R S D (Tree.all_bind _ _ h) fun v u φ₁ s₁ pn₁ h₁ x₁ S₁ i₁ => ?_
  split at h₁
  · rename_i a b
    refine g3 A φ₁ s₁ pn₁ a b v _ _ E S₁ i₁ fun tk => ?_
    have S₂ := (S₁.tok tk).2
    exact callWith_ok IH hc R S₂ ((D.ext S x₁).ext S₁ (S₁.tok tk).1) g1 g2 (fu := [.tnum a b]) ⟨(S₁.tok tk).1.is S₁ i₁, trivial⟩ h₁ ((P.after x₁).after (S₁.tok tk).1)
  · simp only [Tree.All, Tree.upN, Tree.knP] at h₁
theorem static_ok (FO : FunsOk c k F G) (IH : SE c k F G n) {f : Nat} {es : List PySem.Expr} {xs : List X} {p ap pos : Pos} {K : Pn → V → Prop} {Q : Value → Shared → Prop} (hg : 12 ∈ Gs) (hk : f < k) (hn : staticId f = true) (hc : chkL (chkE k m Gs) es xs = true) (hl : es.length < 20) (hline : ap.endLine = pos.line)
    (R : Room A k) (S : St c φ s pn) (D : Rd c Gs env σ φ s.heap) (h : ((evL (ev F G n σ) xs).bind (F f)).All pn K) (P : Post c φ s K Q) :
    wpAny (model c.prog c.w) A (eval (.Call (.Attribute (.Name (fnm 12) p) (fnm f) ap) es [] pos) env) Q E s := by
  obtain ⟨fv, g1, g2, g4, g3⟩ := FO.static f hk hn
  refine methodCall_open (fun _ => rfl) (unstarred xs es hc pos).2 hl hline ?_
  refine glob_ok S D hg (by decide) g4 ?_
  refine g3 A s _ _ E S.base fun tk => ?_
  exact callWith_ok IH hc R (S.tok tk).2 (D.ext S (S.tok tk).1) g1 g2 (fu := []) trivial h (P.after (S.tok tk).1)

end
end Mine

set_option autoImplicit false
namespace Mine
open PySem PySem.W PySem.Calls PyProof.Rows PyProof

section
variable {c : Cx} {A : Around} {s : Shared} {φ : Fz} {pn : Pn} {k m n : Nat} {E : Value → Shared → Prop} {env : PySem.Env} {σ : Env} {Gs : List Nat} {F : Nat → List V → Tree V} {G : Nat → Int}

noncomputable def opOf : Bool → BoolOp
  | false => .And
  | true => .Or
theorem not_slice {e : PySem.Expr} {x : X} (h : chkE k m Gs e x = true) (o i : Value) : subscripted e false o i = operate [o, i] (getItem o i) := (calm (env := default) (ce_of h)).sub o i
theorem subscripted_const {cst : Const} {kk : Nat} {p : Pos} (o i : Value) : subscripted (.Constant cst kk p) false o i = operate [o, i] (getItem o i) := rfl

theorem nth_ok {xs : List V} {i : Int} {K : Pn → V → Prop} (h : (nthV xs i).All pn K) : ∃ u, 0 ≤ i ∧ i < 2 ^ 62 ∧ xs[i.toNat]? = some u ∧ K pn u := by
  obtain ⟨h1, h2⟩ := guard_all h
  obtain ⟨u, e, hk⟩ := optT_all h2
  simp only [Bool.and_eq_true, decide_eq_true_eq] at h1
  exact ⟨u, h1.1, h1.2, e, hk⟩

theorem item_ok {value slice : PySem.Expr} {u : V} {o : Value} {i : Int} {t : Tok} {K : Pn → V → Prop} {Q : Value → Shared → Prop} (S : St c φ s pn) (hs : ∀ o i, subscripted slice false o i = operate [o, i] (getItem o i)) (io : Is c φ u o)
    (h : (nthAny u (.int i)).All pn K) (P : Post c φ s K Q) : wpAny (model c.prog c.w) A (subscriptTail value slice o (.int i t)) Q E s := by
  cases u with
  | list xs =>
    obtain ⟨u, h0, h1, e, hk⟩ := nth_ok h
    obtain ⟨l, vs, rfl, hl, _, el⟩ := list_is S io
    obtain ⟨v, ev, iv⟩ := el.get e
    have hq : Q v s := P.here S hk iv
    have h2 : i < 2 ^ 63 := Int.lt_trans h1 (by decide)
    refine tail_any hl.typeIs PySem.slot_list_getitem.lookup ?_ (hs _ _)
    exact wpAny_getItem_list hl h0 h2 (by rw [← Array.getElem?_toList]; exact ev) hq
  | tup xs =>
    obtain ⟨u, h0, h1, e, hk⟩ := nth_ok h
    obtain ⟨l, vs, rfl, hl, _, el⟩ := tup_is S io
    obtain ⟨v, ev, iv⟩ := el.get e
    have hlt : i.toNat < vs.size := by
      have := (List.getElem?_eq_some_iff.mp ev).1
      simpa using this
    have hq : Q v s := P.here S hk iv
    have h2 : i < 2 ^ 63 := Int.lt_trans h1 (by decide)
    have h3 : -(2 ^ 63) ≤ i := Int.le_trans (by decide) h0
    refine tail_any hl.typeIs PyProof.Rows.slot_tuple_getitem.lookup ?_ (hs _ _)
    exact PyProof.Rows.getItem_tuple (j := i.toNat) hl h3 h2 (seqIndex_of h0 (by omega)) (by rw [← Array.getElem?_toList]; exact ev) hq
  | _ => simp only [nthAny, Tree.All, Tree.upN, Tree.knP] at h

theorem idx_ok (IH : SE c k F G n) {o i : PySem.Expr} {x y : X} {pos : Pos} {K : Pn → V → Prop} {Q : Value → Shared → Prop} (ho : chkE k m Gs o x = true) (hi : chkE k m Gs i y = true) (R : Room A k) (S : St c φ s pn) (D : Rd c Gs env σ φ s.heap)
    (h : ((ev F G n σ x).bind fun v => (ev F G n σ y).bind fun j => nthAny v j).All pn K) (P : Post c φ s K Q) :
    wpAny (model c.prog c.w) A (eval (.Subscript o i pos) env) Q E s := by
  refine Subscript_ (IH m Gs o x ho A env σ φ s pn _ _ E R S D (Tree.all_bind _ _ h) fun v u φ₁ s₁ pn₁ h₁ x₁ S₁ i₁ => ?_)
  refine IH m Gs i y hi A env σ φ₁ s₁ pn₁ _ _ E R S₁ (D.ext S x₁) (Tree.all_bind _ _ h₁) fun v' u' φ₂ s₂ pn₂ h₂ x₂ S₂ i₂ => ?_
  cases u' with
  | int j =>
    obtain ⟨t, rfl⟩ := int_is i₂
    exact item_ok S₂ (fun o i => not_slice hi o i) (x₂.is S₁ i₁) h₂ ((P.after x₁).after x₂)
  | _ => cases u <;> simp only [nthAny, Tree.All, Tree.upN, Tree.knP] at h₂

theorem penAt_ok (IH : SE c k F G n) {o : PySem.Expr} {x : X} {i : Nat} {kk : Nat} {p pos : Pos} {K : Pn → V → Prop} {Q : Value → Shared → Prop} (hi : i < 3) (ho : chkE k m Gs o x = true) (R : Room A k) (S : St c φ s pn) (D : Rd c Gs env σ φ s.heap)
    (h : ((ev F G n σ x).bind fun v => match v with | .pen => .pget i .ret | _ => .fail).All pn K) (P : Post c φ s K Q) :
    wpAny (model c.prog c.w) A (eval (.Subscript o (.Constant (.int (i : Int)) kk p) pos) env) Q E s := by
  refine Subscript_ (IH m Gs o x ho A env σ φ s pn _ _ E R S D (Tree.all_bind _ _ h) fun v u φ₁ s₁ pn₁ h₁ x₁ S₁ i₁ => ?_)
  refine wpAny_Constant_int ?_
  have P₁ := P.after x₁
  cases u with
  | pen =>
    dsimp only at h₁
    have S₂ := (S₁.tok (s₁.toks + 1)).2
    have P₂ := P₁.after (S₁.tok (s₁.toks + 1)).1
    cases pn₁ with
    | known cs sp kc =>
      obtain ⟨a, q, o, nn, t1, t2, e1, e2, e3, e4, e5, e6⟩ := S₂.pen
      have i₁ : ∃ a, c.p = some a ∧ v = .ref a := by simpa only [Is] using i₁
      obtain ⟨a', e1', rfl⟩ := i₁
      rw [e1] at e1'; cases e1'
      have hl : ({ s₁ with toks := s₁.toks + 1 } : Shared).heap.IsList a #[.ref q, .int sp t1, .int kc t2] := ⟨o, e3, e4, nn, e5⟩
      rcases Nat.lt_succ_iff_lt_or_eq.mp hi with hi | rfl
      · rcases Nat.lt_succ_iff_lt_or_eq.mp hi with hi | rfl
        · have : i = 0 := by omega
          subst this
          simp only [Tree.All, Tree.upN, Tree.knP] at h₁
          exact tail_any hl.typeIs PySem.slot_list_getitem.lookup (wpAny_getItem_list (x := .ref q) hl (by omega) (by omega) (by simp) (P₂.here S₂ h₁ e6)) rfl
        · simp only [Tree.All, Tree.upN, Tree.knP] at h₁
          exact tail_any hl.typeIs PySem.slot_list_getitem.lookup (wpAny_getItem_list (x := .int sp t1) hl (by omega) (by omega) (by simp) (P₂.here S₂ h₁ is_int)) rfl
      · simp only [Tree.All, Tree.upN, Tree.knP] at h₁
        exact tail_any hl.typeIs PySem.slot_list_getitem.lookup (wpAny_getItem_list (x := .int kc t2) hl (by omega) (by omega) (by simp) (P₂.here S₂ h₁ is_int)) rfl
    | _ => simp only [Tree.All, Tree.upN, Tree.knP] at h₁
  | _ => simp only [Tree.All, Tree.upN, Tree.knP] at h₁

theorem upto_ok (IH : SE c k F G n) {o : PySem.Expr} {x : X} {j : Int} {kk : Nat} {p p2 pos : Pos} {K : Pn → V → Prop} {Q : Value → Shared → Prop} (hj : 0 ≤ j) (ho : chkE k m Gs o x = true) (R : Room A k) (S : St c φ s pn) (D : Rd c Gs env σ φ s.heap)
    (h : ((ev F G n σ x).bind fun v => match v with | .list xs => .ret (.list (xs.take j.toNat)) | _ => .fail).All pn K) (P : Post c φ s K Q) :
    wpAny (model c.prog c.w) A (eval (.Subscript o (.Slice none (some (.Constant (.int j) kk p)) none p2) pos) env) Q E s := by
  refine Subscript_ (IH m Gs o x ho A env σ φ s pn _ _ E R S D (Tree.all_bind _ _ h) fun v u φ₁ s₁ pn₁ h₁ x₁ S₁ i₁ => ?_)
  refine wpAny_Slice ?_
  refine wpAny_evalPart_none (wpAny_evalPart_some (wpAny_Constant_int ?_))
  rw [evalPart_none]
  refine wpAny_pure ?_
  cases u with
  | list xs =>
    dsimp only at h₁
    simp only [Tree.All, Tree.upN, Tree.knP] at h₁
    obtain ⟨l, vs, rfl, hl, hz, el⟩ := list_is S₁ i₁
    have hl' : ((s₁.heap.push { cls := .type "slice", data := .fields #[.none, .int j s₁.toks, .none] }).IsList l vs) := hl.push _
    refine tail_any (ops := [.ref s₁.heap.objs.size, .ref l]) hl'.typeIs PySem.slot_list_getitem.lookup (wpAny_getItem_list_slice hl' (Heap.IsSliceOf.new ..) (lo := none) (hi := some j) (st := none) .none (.int _ _) .none (by simp) ?_ hz) rfl
    have ej : (j.toNat : Int) = j := by omega
    have e : slicePick vs none (some j) none = (vs.toList.take j.toNat).toArray := by
      have := slicePick_upto' vs j.toNat
      rwa [ej] at this
    have x₂ := P.after x₁
    refine x₂.newList (n := 0) (vs := slicePick vs none (some j) none) S₁ (fun a o e => push_keeps _ _ (push_keeps _ _ e)) (Heap.get?_push_size _ rfl) rfl rfl ?_ ?_ h₁ ?_
    · rw [Heap.size_push]
      cases q : s₁.heap.get? (s₁.heap.objs.size + 1) with
      | none => rfl
      | some o => exact absurd (Heap.lt_size q) fun h => Nat.lt_irrefl _ (Nat.lt_of_succ_lt h)
    · exact Nat.le_trans (slicePick_size_le _ _ _ _) hz
    · rw [e]; exact el.take _
  | _ => simp only [Tree.All, Tree.upN, Tree.knP] at h₁

theorem chainV_ok (IH : SE c k F G n) (b : Bool) (op : BoolOp) (hop : op = opOf b) (pos : Pos) : ∀ (es : List PySem.Expr) (xs : List X), chkL (chkE k m Gs) es xs = true → ∀ (φ : Fz) (s : Shared) (pn : Pn) (K : Pn → V → Prop) (Q : Value → Shared → Prop), Room A k → St c φ s pn → Rd c Gs env σ φ s.heap →
    (chainV (ev F G n σ) b xs).All pn K → Post c φ s K Q → wpAny (model c.prog c.w) A (boolOp pos op (evalEach es env)) Q E s
  | [], xs, hc, φ, s, pn, K, Q, R, S, D, h, P => by
    cases xs with
    | nil => exact h.elim
    | cons => exact no hc
  | e :: es, xs, hc, φ, s, pn, K, Q, R, S, D, h, P => by
    cases xs with
    | nil => exact no hc
    | cons x xs =>
      refine and2k hc fun h1 h2 => ?_
      have again := chainV_ok IH b op hop pos es xs h2
      cases es with
      | nil =>
        cases xs with
        | nil => exact IH m Gs e x h1 A env σ φ s pn _ _ E R S D h P
        | cons => exact no h2
      | cons e' es =>
        cases xs with
        | nil => exact no h2
        | cons x' xs =>
          show wpAny _ _ (eval e env >>= _) _ _ _
          refine wpAny_bind (IH m Gs e x h1 A env σ φ s pn _ _ E R S D (Tree.all_bind _ _ h) fun v u φ₁ s₁ pn₁ h₁ x₁ S₁ i₁ => ?_)
          refine wpAny_bind (wpAny_standAt (wpAny_bind (wpAny_holding (truthy_ok S₁ i₁ (Tree.all_bind _ _ h₁) fun t φ₂ s₂ pn₂ h₂ x₂ S₂ => ?_))))
          subst hop
          have rest : (chainV (ev F G n σ) b (x' :: xs)).All pn₂ K → wpAny (model c.prog c.w) A (boolOp pos (opOf b) (evalEach (e' :: es) env)) Q E s₂ := fun h =>
            again φ₂ s₂ pn₂ K Q R S₂ ((D.ext S x₁).ext S₁ x₂) h ((P.after x₁).after x₂)
          have stop : K pn₂ u → Q v s₂ := fun h => (P.after x₁) v u φ₂ s₂ pn₂ h x₂ S₂ (x₂.is S₁ i₁)
          cases b <;> cases t <;> first | exact rest h₂ | exact wpAny_pure (stop h₂)

theorem chainT_ok (IT : STt c k F G n) (b : Bool) (op : BoolOp) (hop : op = opOf b) : ∀ (es : List PySem.Expr) (xs : List X), chkL (chkE k m Gs) es xs = true → ∀ (φ : Fz) (s : Shared) (pn : Pn) (K : Pn → Bool → Prop) (Q : Bool → Shared → Prop), Room A k → St c φ s pn → Rd c Gs env σ φ s.heap →
    (chainT (tv F G n σ) b xs).All pn K → PostB c φ s K Q → wpAny (model c.prog c.w) A (allTrue op es env) Q E s
  | [], xs, hc, φ, s, pn, K, Q, R, S, D, h, P => by
    subst hop
    cases xs with
    | nil => cases b <;> exact wpAny_pure (P.here S (K := K) h)
    | cons => exact no hc
  | e :: es, xs, hc, φ, s, pn, K, Q, R, S, D, h, P => by
    cases xs with
    | nil => exact no hc
    | cons x xs =>
      refine and2k hc fun h1 h2 => ?_
      have again := fun φ s pn K Q => chainT_ok IT b op hop es xs h2 φ s pn K Q
      subst hop
      have hb : ∀ t φ₁ s₁ pn₁, (match t == b with | true => Tree.ret b | false => chainT (tv F G n σ) b xs).All pn₁ K → Ext c φ s φ₁ s₁ → St c φ₁ s₁ pn₁ →
          wpAny (model c.prog c.w) A (match opOf b, t with | .And, false => pure false | .Or, true => pure true | _, _ => allTrue (opOf b) es env) Q E s₁ := by
        intro t φ₁ s₁ pn₁ h₁ x₁ S₁
        cases b <;> cases t <;> first
          | exact again φ₁ s₁ pn₁ K Q R S₁ (D.ext S x₁) h₁ (P.after x₁)
          | exact wpAny_pure (P _ _ _ _ h₁ x₁ S₁)
      show wpAny _ _ (isTrue e env (eval e env) >>= _) _ _ _
      exact wpAny_bind (IT m Gs e x h1 A env σ φ s pn _ _ E R S D (Tree.all_bind _ _ h) fun t φ₁ s₁ pn₁ h₁ x₁ S₁ => hb t φ₁ s₁ pn₁ h₁ x₁ S₁)

theorem not_set {op : CmpOp} {e : PySem.Expr} {x : X} (h : chkE k m Gs e x = true) : behindInMarks op e = false := (calm (env := default) (ce_of h)).marks op
theorem no_set {e : PySem.Expr} {x : X} (h : chkE k m Gs e x = true) (v : Value) : foldedSetIterable e env v = pure v := (calm (ce_of h)).set v

theorem cmpE_ok (IH : SE c k F G n) {op : CmpOp} {l r : PySem.Expr} {x y : X} {pos : Pos} {K : Pn → V → Prop} {Q : Value → Shared → Prop} (hl : chkE k m Gs l x = true) (hr : chkE k m Gs r y = true) (R : Room A k) (S : St c φ s pn) (D : Rd c Gs env σ φ s.heap)
    (h : ((ev F G n σ x).bind fun a => (ev F G n σ y).bind fun b => (cmpV op a b).bind fun c => .ret (.bool c)).All pn K) (P : Post c φ s K Q) : wpAny (model c.prog c.w) A (eval (.Compare l [op] [r] pos) env) Q E s := by
  refine wpAny_Compare1 (hm := not_set hr) (IH m Gs l x hl A env σ φ s pn _ _ E R S D (Tree.all_bind _ _ h) fun v u φ₁ s₁ pn₁ h₁ x₁ S₁ i₁ => ?_)
  refine IH m Gs r y hr A env σ φ₁ s₁ pn₁ _ _ E R S₁ (D.ext S x₁) (Tree.all_bind _ _ h₁) fun v' u' φ₂ s₂ pn₂ h₂ x₂ S₂ i₂ => ?_
  exact cmp_ok R S₂ (x₂.is S₁ i₁) i₂ (Tree.all_bind _ _ h₂) fun b hb => ((P.after x₁).after x₂).here S₂ hb is_bool
theorem cmpT_ok (IH : SE c k F G n) {op : CmpOp} {l r : PySem.Expr} {x y : X} {pos : Pos} {whole : Sem Value} {K : Pn → Bool → Prop} {Q : Bool → Shared → Prop} (hl : chkE k m Gs l x = true) (hr : chkE k m Gs r y = true) (R : Room A k) (S : St c φ s pn) (D : Rd c Gs env σ φ s.heap)
    (h : ((ev F G n σ x).bind fun a => (ev F G n σ y).bind fun b => cmpV op a b).All pn K) (P : PostB c φ s K Q) : wpAny (model c.prog c.w) A (isTrue (.Compare l [op] [r] pos) env whole) Q E s := by
  refine wpAny_isTrue_Compare1 (hm := not_set hr) (IH m Gs l x hl A env σ φ s pn _ _ E R S D (Tree.all_bind _ _ h) fun v u φ₁ s₁ pn₁ h₁ x₁ S₁ i₁ => ?_)
  refine IH m Gs r y hr A env σ φ₁ s₁ pn₁ _ _ E R S₁ (D.ext S x₁) (Tree.all_bind _ _ h₁) fun v' u' φ₂ s₂ pn₂ h₂ x₂ S₂ i₂ => ?_
  exact cmp_ok R S₂ (x₂.is S₁ i₁) i₂ h₂ fun b hb => wpAny_truthy_bool (((P.after x₁).after x₂).here S₂ hb)
theorem isNone_val {u : V} {v : Value} {Q : Value → Shared → Prop} (i : Is c φ u v) (P : Q (.bool (isNoneV u)) s) : wpAny (model c.prog c.w) A (compareOp .Is v .none) Q E s := by
  cases u with
  | none => cases none_is i; exact is_none_gen P
  | bool b => cases bool_is i; exact is_none_ne (by intro h; cases h) P
  | int j => obtain ⟨t, rfl⟩ := int_is i; exact is_none_ne (by intro h; cases h) P
  | pen => simp only [Is] at i; obtain ⟨a, _, rfl⟩ := i; exact is_none_ne (by intro h; cases h) P
  | _ =>
    refine is_none_ne (fun e => ?_) P
    subst e
    simp only [Is] at i
    first
      | (obtain ⟨_, _, _, _, h, _⟩ := i; cases h; done)
      | (obtain ⟨_, _, _, _, _, h, _⟩ := i; cases h; done)
      | (obtain ⟨_, _, _, _, _, _, _, _, _, h, _⟩ := i; cases h; done)
end
end Mine

set_option autoImplicit false
namespace Mine
open PySem PySem.W PySem.Calls PyProof.Rows PyProof

/-- a step that may turn the objects of U -/
structure ExtU (c : Cx) (U : Addr → Prop) (φ : Fz) (s : Shared) (φ' : Fz) (s' : Shared) : Prop where
  same : ∃ h' tk, s' = { s with heap := h', toks := tk }
  keep : ∀ a o, ¬ U a → some a ≠ c.p → s.heap.get? a = some o → s'.heap.get? a = some o
  live : ∀ a, ¬ U a → s.heap.get? a ≠ none → s'.heap.get? a ≠ none
  fz : ∀ a, ¬ U a → s.heap.get? a ≠ none → φ' a = φ a

section
variable {c : Cx} {U U' : Addr → Prop} {φ φ' φ'' : Fz} {s s' s'' : Shared} {pn : Pn}
theorem ExtU.refl : ExtU c U φ s φ s := ⟨⟨s.heap, s.toks, rfl⟩, fun _ _ _ _ e => e, fun _ _ e => e, fun _ _ _ => rfl⟩
theorem ExtU.trans (x : ExtU c U φ s φ' s') (y : ExtU c U' φ' s' φ'' s'') (hU : ∀ a, U' a → U a ∨ s.heap.get? a = none) : ExtU c U φ s φ'' s'' where
  same := by obtain ⟨h, t, rfl⟩ := x.same; obtain ⟨h', t', rfl⟩ := y.same; exact ⟨h', t', rfl⟩
  keep := fun a o n1 n2 e => y.keep a o (fun u => (hU a u).elim n1 fun q => by rw [q] at e; cases e) n2 (x.keep a o n1 n2 e)
  live := fun a n1 e => y.live a (fun u => (hU a u).elim n1 e) (x.live a n1 e)
  fz := fun a n1 e => (y.fz a (fun u => (hU a u).elim n1 e) (x.live a n1 e)).trans (x.fz a n1 e)
theorem ExtU.mono (x : ExtU c U φ s φ' s') (hU : ∀ a, U a → U' a) : ExtU c U' φ s φ' s' :=
  ⟨x.same, fun a o n1 n2 e => x.keep a o (fun u => n1 (hU a u)) n2 e, fun a n1 e => x.live a (fun u => n1 (hU a u)) e, fun a n1 e => x.fz a (fun u => n1 (hU a u)) e⟩
theorem Ext.toU (x : Ext c φ s φ' s') : ExtU c U φ s φ' s' := ⟨x.same, fun a o _ n e => x.keep a o n e, fun a _ e => x.live a e, fun a _ e => x.fz a e⟩
theorem ExtU.toExt (x : ExtU c U φ s φ' s') (hU : ∀ a, U a → s.heap.get? a = none) : Ext c φ s φ' s' :=
  ⟨x.same, fun a o n e => x.keep a o (fun u => by rw [hU a u] at e; cases e) n e, fun a e => x.live a (fun u => e (hU a u)) e, fun a e => x.fz a (fun u => e (hU a u)) e⟩
/-- objects of U alone are turned -/
theorem St.turn (S : St c φ s pn) {h' : Heap} {tk : Nat} (hU : ∀ a, U a → φ a = none ∧ some a ≠ c.p) (hk : ∀ a o, ¬ U a → s.heap.get? a = some o → h'.get? a = some o) :
    ExtU c U φ s φ { s with heap := h', toks := tk } ∧ St c φ { s with heap := h', toks := tk } pn := by
  have nU : ∀ a o, φ a = some o → ¬ U a := fun a o e u => by rw [(hU a u).1] at e; cases e
  have nP : ∀ a, c.p = some a → ¬ U a := fun a e u => (hU a u).2 e.symm
  have hl : ∀ a, ¬ U a → s.heap.get? a ≠ none → h'.get? a ≠ none := fun a n e => by
    cases q : s.heap.get? a with
    | none => exact absurd q e
    | some o => rw [hk a o n q]; simp
  exact ⟨⟨⟨h', tk, rfl⟩, fun a o n _ e => hk a o n e, hl, fun _ _ _ => rfl⟩, ⟨fun a o e => hk a o (nU a o e) (S.sub a o e), S.bas, S.pen.mono (fun _ _ e => e) fun a e => ⟨(S.fresh a e).2, fun o q => hk a o (nP a e) q⟩, fun a e => ⟨hl a (nP a e) (S.fresh a e).1, (S.fresh a e).2⟩⟩⟩
theorem ExtU.isIn (x : ExtU c U φ s φ' s') (S : St c φ s pn) (hU : ∀ a, U a → φ a = none) : ∀ a o, φ a = some o → φ' a = some o :=
  fun a o e => (x.fz a (fun u => by rw [hU a u] at e; cases e) (by rw [S.sub a o e]; simp)).trans e

theorem sameBut_live {h h' : Heap} {a : Addr} (x : Heap.SameBut a h h') (ha : h'.get? a ≠ none) : ∀ b, h.get? b ≠ none → h'.get? b ≠ none := fun b e => by
  by_cases q : b = a
  · subst q; exact ha
  · rw [x.2 b q]; exact e
theorem ns_live {h : Heap} {a : Addr} {m : Str → Option Value} (x : h.Ns a m) : h.get? a ≠ none := by
  obtain ⟨o, _, _, ho, _⟩ := x; rw [ho]; simp
theorem cell_live {h : Heap} {a : Addr} {v : Option Value} (x : h.IsCell a v) : h.get? a ≠ none := by
  obtain ⟨o, ho, _⟩ := x; rw [ho]; simp
end

theorem nm_inj {i j : Nat} (hi : i < 56) (hj : j < 56) (h : nm i = nm j) : i = j := by
  have key : (List.range 56).all (fun i => (List.range 56).all fun j => i == j || !strEq (nm i) (nm j)) = true := by decide +kernel
  have h1 := List.all_eq_true.mp (List.all_eq_true.mp key i (List.mem_range.mpr hi)) j (List.mem_range.mpr hj)
  rcases Bool.or_eq_true_iff.mp h1 with q | q
  · exact beq_iff_eq.mp q
  · rw [h] at q; simp [strEq] at q

/-- the places that a frame may turn -/
noncomputable def mu (env : PySem.Env) (Ds : List Nat) (a : Addr) : Prop := a = env.locals ∨ ∃ i ∈ Ds, env.kindOf (nm i) = some .cell ∧ env.cells.lookup (nm i) = some a

/-- a frame at work: names that may be stored are those of Ds -/
structure Fm (c : Cx) (Gs Ds : List Nat) (env : PySem.Env) (σ : Env) (φ : Fz) (h : Heap) : Prop extends Rd c Gs env σ φ h where
  ns : ∃ m, h.Ns env.locals m
  sto : ∀ i ∈ Ds, i < 56 ∧ (env.kindOf (nm i) = some .local ∨ (env.kindOf (nm i) = some .cell ∧ ∃ a v, env.cells.lookup (nm i) = some a ∧ h.IsCell a v ∧ some a ≠ c.p))

section
variable {c : Cx} {A : Around} {s : Shared} {φ : Fz} {pn : Pn} {k m n : Nat} {E : Value → Shared → Prop} {env : PySem.Env} {σ : Env} {Gs Ds : List Nat}

theorem Fm.ext {φ' : Fz} {s' : Shared} (M : Fm c Gs Ds env σ φ s.heap) (S : St c φ s pn) (x : Ext c φ s φ' s') : Fm c Gs Ds env σ φ' s'.heap where
  toRd := M.toRd.ext S x
  ns := let ⟨m, h⟩ := M.ns; ⟨m, h.at' fun o e => x.keep _ _ M.loc e⟩
  sto := fun i hi => ⟨(M.sto i hi).1, (M.sto i hi).2.imp id fun ⟨e, a, v, e1, ⟨o, e2, e3⟩, e4⟩ => ⟨e, a, v, e1, ⟨o, x.keep _ _ e4 e2, e3⟩, e4⟩⟩

theorem VarAt.cellNe {x : Str} {v : Value} {h : Heap} (y : VarAt c env h x v) (e : env.kindOf x = some .cell ∨ env.kindOf x = some .free) : ∃ a, env.cells.lookup x = some a ∧ some a ≠ c.p ∧ h.IsCell a (some v) := by
  rcases y with ⟨q, _⟩ | ⟨_, r⟩
  · rcases e with e | e <;> rw [q] at e <;> cases e
  · exact r

/-- one name is stored, whatever the value -/
theorem store_raw {i : Nat} {v : Value} {Q : Unit → Shared → Prop} (S : St c φ s pn) (M : Fm c Gs Ds env σ φ s.heap) (hi : i ∈ Ds) (hmu : ∀ a, mu env Ds a → φ a = none ∧ some a ≠ c.p)
    (P : ∀ s', ExtU c (mu env Ds) φ s φ s' → St c φ s' pn → Fm c Gs Ds env (del σ i) φ s'.heap → VarAt c env s'.heap (nm i) v → (∀ y w, y ≠ nm i → VarAt c env s.heap y w → VarAt c env s'.heap y w) → Q () s') : wpAny (model c.prog c.w) A (storeName env (nm i) v) Q E s := by
  obtain ⟨hi56, hst⟩ := M.sto i hi
  obtain ⟨m, hn⟩ := M.ns
  have hk : (env.scope.kind == ScopeKind.class || (env.scope.kind == .module && env.locals != env.globals)) = false := by rw [M.kind]; rfl
  have dom' : ∀ j w, get (del σ i) j = some w → j ≠ i ∧ get σ j = some w := fun j w hj => by
    rw [get_del] at hj
    by_cases hij : i = j
    · rw [if_pos hij] at hj; cases hj
    · rw [if_neg hij] at hj; exact ⟨Ne.symm hij, hj⟩
  rcases hst with e | ⟨e, a, v₀, e1, e2, e3⟩
  · refine wpAny_storeName_local e hn (fun h' hn' hs => ?_) hk
    obtain ⟨x, S'⟩ := S.turn (U := mu env Ds) (h' := h') (tk := s.toks + 1) hmu (fun b o nb q => (hs.2 b fun z => nb (.inl z)).trans q)
    have kept : ∀ y w, y ≠ nm i → VarAt c env s.heap y w → VarAt c env h' y w := fun y w hy q2 => by
      rcases q2 with ⟨q, m', hm, hv⟩ | ⟨q, b, q3, q4, q5⟩
      · refine .inl ⟨q, _, hn', ?_⟩
        simp only [hy, if_false]
        obtain ⟨o, es, ep, ho, hd, _, hf⟩ := hn
        obtain ⟨o', es', ep', ho', hd', _, hf'⟩ := hm
        rw [ho] at ho'; cases ho'
        rw [hd] at hd'; cases hd'
        rw [← hf, hf']; exact hv
      · exact .inr ⟨q, b, q3, q4, q5.sameBut hs (M.apart.loc _ _ q3)⟩
    refine P _ x S' ⟨⟨M.kind, M.glb, M.blt, M.gs, M.cl, M.loc, M.apart, fun j w hj => M.dom j w (dom' j w hj).2, fun j w hj => ?_⟩, ⟨_, hn'⟩, fun j hj => ⟨(M.sto j hj).1, (M.sto j hj).2.imp id fun ⟨q, b, v', q1, q2, q3⟩ => ⟨q, b, v', q1, q2.sameBut hs (M.apart.loc _ _ q1), q3⟩⟩⟩ (.inl ⟨e, _, hn', by simp⟩) kept
    obtain ⟨h1, h2⟩ := dom' j w hj
    obtain ⟨v', q1, q2⟩ := M.vars j w h2
    exact ⟨v', q1, kept _ _ (fun z => h1 (nm_inj (M.dom j w h2) hi56 z)) q2⟩
  · refine wpAny_storeName_cell M.kind e e1 e2 fun h' hc' hs => ?_
    obtain ⟨x, S'⟩ := S.turn (U := mu env Ds) (h' := h') (tk := s.toks) hmu (fun b o nb q => (hs.2 b fun z => nb (.inr ⟨i, hi, e, z ▸ e1⟩)).trans q)
    have hn' : h'.Ns env.locals m := hn.sameBut hs (Ne.symm (M.apart.loc _ _ e1))
    have kept : ∀ y w, y ≠ nm i → VarAt c env s.heap y w → VarAt c env h' y w := fun y w hy q2 => by
      rcases q2 with ⟨q, m', hm, hv⟩ | ⟨q, b, q3, q4, q5⟩
      · exact .inl ⟨q, m', hm.sameBut hs (Ne.symm (M.apart.loc _ _ e1)), hv⟩
      · refine .inr ⟨q, b, q3, q4, q5.sameBut hs fun z => ?_⟩
        exact hy (M.apart.inj _ _ _ q3 (z ▸ e1))
    refine P _ x S' ⟨⟨M.kind, M.glb, M.blt, M.gs, M.cl, M.loc, M.apart, fun j w hj => M.dom j w (dom' j w hj).2, fun j w hj => ?_⟩, ⟨_, hn'⟩, fun j hj => ⟨(M.sto j hj).1, (M.sto j hj).2.imp id fun ⟨q, b, v', q1, q2, q3⟩ => ?_⟩⟩ (.inr ⟨.inl e, a, e1, e3, hc'⟩) kept
    · obtain ⟨h1, h2⟩ := dom' j w hj
      obtain ⟨v', q1, q2⟩ := M.vars j w h2
      exact ⟨v', q1, kept _ _ (fun z => h1 (nm_inj (M.dom j w h2) hi56 z)) q2⟩
    · by_cases hb : b = a
      · subst hb; exact ⟨q, b, _, q1, hc', q3⟩
      · exact ⟨q, b, v', q1, q2.sameBut hs hb, q3⟩

theorem Fm.put {h : Heap} {i : Nat} {u : V} {v : Value} (M : Fm c Gs Ds env (del σ i) φ h) (hi : i < 56) (hu : Is c φ u v) (hv : VarAt c env h (nm i) v) : Fm c Gs Ds env (set σ i u) φ h where
  toRd := ⟨M.kind, M.glb, M.blt, M.gs, M.cl, M.loc, M.apart, fun j w hj => by
    rw [get_set] at hj
    by_cases hij : i = j
    · subst hij; exact hi
    · rw [if_neg hij] at hj; exact M.dom j w (by rw [get_del, if_neg hij]; exact hj), fun j w hj => by
    rw [get_set] at hj
    by_cases hij : i = j
    · subst hij; rw [if_pos rfl] at hj; cases hj; exact ⟨v, hu, hv⟩
    · rw [if_neg hij] at hj; exact M.vars j w (by rw [get_del, if_neg hij]; exact hj)⟩
  ns := M.ns
  sto := M.sto
/-- one name is stored -/
theorem store_ok {i : Nat} {u : V} {v : Value} {Q : Unit → Shared → Prop} (S : St c φ s pn) (M : Fm c Gs Ds env σ φ s.heap) (hi : i ∈ Ds) (hu : Is c φ u v) (hmu : ∀ a, mu env Ds a → φ a = none ∧ some a ≠ c.p)
    (P : ∀ s', ExtU c (mu env Ds) φ s φ s' → St c φ s' pn → Fm c Gs Ds env (set σ i u) φ s'.heap → Q () s') : wpAny (model c.prog c.w) A (storeName env (nm i) v) Q E s :=
  store_raw S M hi hmu fun s' x S' M' hv _ => P s' x S' (M'.put (M.sto i hi).1 hu hv)
end
end Mine

set_option autoImplicit false
namespace Mine
open PySem PySem.W PySem.Calls PyProof.Rows PyProof

/-- an iterator at work over plain items -/
structure Iter (c : Cx) (A : Around) (I : Addr) (items : List V) (φ : Fz) where
  fp : List Addr
  P : Nat → Value → Prop
  St : Nat → Heap → Prop
  W : Walks c.prog c.w A I fp [I] items.length P St
  hfp : ∀ b ∈ fp, b = I ∨ ∃ o, φ b = some o
  hP : ∀ i x, P i x → ∃ u, items[i]? = some u ∧ Is c φ u x
  cls : ∀ i h, St i h → ∃ o, h.get? I = some o ∧ (o.cls = .type "list_iterator" ∨ o.cls = .type "range_iterator")

section
variable {c : Cx} {A : Around} {s : Shared} {φ : Fz} {pn : Pn} {k m n : Nat} {E : Value → Shared → Prop} {env : PySem.Env} {σ : Env} {Gs Ds : List Nat}

theorem range_items {a b : Int} {i : Nat} {x : Value} (hi : i < (b - a).toNat) (hx : ∃ t, x = .int (a + (i : Int) * 1) t) : ∃ u, ((List.range (b - a).toNat).map fun i : Nat => V.int (a + (i : Int)))[i]? = some u ∧ Is c φ u x := by
  obtain ⟨t, rfl⟩ := hx
  exact ⟨.int (a + (i : Int)), by simp [hi], by rw [Int.mul_one]; exact is_int⟩

theorem iter_ok {u : V} {v : Value} {items : List V} {Q : Value → Shared → Prop} (hh : A.handled = none) (S : St c φ s pn) (hu : Is c φ u v) (hw : walkable u = true) (hi : itemsV u = some items) (hz : items.length ≤ sizeLine → 
    ∀ (ob : Obj) (I : Iter c A s.heap.objs.size items φ), I.St 0 (s.heap.push ob) → ob.isFreed = false → Q (.ref s.heap.objs.size) { s with heap := s.heap.push ob }) :
    wpAny (model c.prog c.w) A (pyIter v) Q E s := by
  cases u with
  | list xs =>
    simp only [itemsV, Option.some.injEq] at hi
    subst hi
    simp only [Is] at hu
    obtain ⟨a, o, nn, vs, rfl, e2, e3, e4, e5, e6⟩ := hu
    have hl : s.heap.IsList a vs := ⟨o, S.sub _ _ e2, e3, nn, e4⟩
    have hlen : vs.size = xs.length := by rw [e6.length, Array.length_toList]
    have hne : a ≠ s.heap.objs.size := fun q => by rw [q] at e2; exact absurd (Heap.lt_size (S.sub _ _ e2)) (Nat.lt_irrefl _)
    have W := Walks.list (prog := c.prog) (w := c.w) (A := A) hh s.heap.objs.size a hne vs
    rw [hlen] at W
    refine wpAny_pyIter_list hl (hz (by rw [← hlen]; exact e5) _ ⟨[s.heap.objs.size, a], fun i v => vs[i]? = some v, fun i h => h.IsListIter s.heap.objs.size a i ∧ h.IsList a vs, W, fun b hb => ?_, fun i x hx => ?_, fun i h hst => ?_⟩ ⟨⟨_, Heap.get?_push_size _ rfl, rfl, rfl⟩, hl.push _⟩ rfl)
    · rcases List.mem_cons.mp hb with rfl | hb
      · exact .inl rfl
      · rw [List.mem_singleton.mp hb]; exact .inr ⟨o, e2⟩
    · have hx' : vs.toList[i]? = some x := by rw [Array.getElem?_toList]; exact hx
      have hlt := (List.getElem?_eq_some_iff.mp hx').1
      have hlt' : i < xs.length := by rw [e6.length]; exact hlt
      obtain ⟨v', q1, q2⟩ := e6.get (List.getElem?_eq_getElem hlt')
      rw [hx'] at q1; cases q1
      exact ⟨_, List.getElem?_eq_getElem hlt', q2⟩
    · obtain ⟨⟨o', q1, q2, _⟩, _⟩ := hst
      exact ⟨o', q1, .inl q2⟩
  | rng a b =>
    simp only [itemsV, Option.some.injEq] at hi
    subst hi
    simp only [Is] at hu
    obtain ⟨r, t, u, z, rfl, e2⟩ := hu
    have hr : IsRange s.heap r a b 1 t u z := S.sub _ _ e2
    simp only [walkable, Bool.and_eq_true, decide_eq_true_eq] at hw
    obtain ⟨⟨⟨⟨w1, w2⟩, w3⟩, w4⟩, w5⟩ := hw
    have hlen : ((List.range (b - a).toNat).map fun i : Nat => V.int (a + (i : Int))).length = (b - a).toNat := by simp
    have hsz : Builtin.Range.rangeSize a b 1 = ((b - a).toNat : Int) := by rw [rangeSize_one]; split <;> omega
    have st0 : IsRangeIter (s.heap.push { cls := .type "range_iterator", data := .fields #[rawInt a, rawInt (Builtin.Range.rangeSize a b 1), rawInt 1] }) s.heap.objs.size (a + ((0 : Nat) : Int) * 1) (((b - a).toNat : Int) - ((0 : Nat) : Int)) 1 := by
      show IsRangeIter _ _ _ _ _
      rw [hsz]; simpa using Heap.get?_push_size _ rfl
    have W := Walks.range (prog := c.prog) (w := c.w) (A := A) hh s.heap.objs.size a 1 (b - a).toNat
    refine wpAny_pyIter_range hr (small_one w1 w2 w3 w4) (hz (by rw [hlen, sizeLine_is]; omega) _ ⟨[s.heap.objs.size], fun i x => i < (b - a).toNat ∧ ∃ t, x = .int (a + (i : Int) * 1) t, fun i h => IsRangeIter h s.heap.objs.size (a + (i : Nat) * 1) (((b - a).toNat : Int) - (i : Nat)) 1, ?_, fun b hb => .inl (List.mem_singleton.mp hb), fun i x hx => range_items hx.1 hx.2, fun i h hst => ⟨_, hst, .inr rfl⟩⟩ st0 rfl)
    rw [hlen]
    exact ⟨W.sub, W.frame, fun i s Q E hi st hQ => W.item i s Q E hi st fun v h' tk hp => hQ v h' tk ⟨hi, hp⟩, W.done, W.self⟩
  | _ => simp [itemsV] at hi

theorem letOwned_ok {I : Addr} {o : Obj} {t : PySem.Expr} {v : Value} {Q : Unit → Shared → Prop} (ho : s.heap.get? I = some o) (hc : o.cls = .type "list_iterator" ∨ o.cls = .type "range_iterator") (P : Q () s) :
    wpAny (model c.prog c.w) A (letOwnedTupleGo t (.ref I) v) Q E s := by
  have go : wpAny (model c.prog c.w) A (do
    let (.ref r, .ref a) := (Value.ref I, v) | return
    let o ← load r
    match o.cls, o.data with
    | .type n, .fields vs =>
      if ["enumerate", "zip", "dict_itemiterator", "dict_reverseitemiterator", "odict_iterator", "itertools.zip_longest", "itertools.pairwise"].contains n && vs[0]? == some (rawInt a) then
        rule "for.unpacks-the-owned-tuple"
        updateField r 0 .none
    | _, _ => pure ()) Q E s := by
    cases v <;> first | exact wpAny_pure P | skip
    refine wpAny_bind (wpAny_load ho ?_)
    obtain ⟨cl, d, dt, sl⟩ := o
    simp only at hc
    rcases hc with rfl | rfl <;> cases dt <;> first | exact wpAny_pure P | (dsimp only; rw [if_neg (by simp)]; exact wpAny_pure P)
  unfold letOwnedTupleGo
  cases t <;> first | exact wpAny_pure P | exact go

theorem assign1_ok {i : Nat} {u : V} {v : Value} {p : Pos} {Q : Unit → Shared → Prop} (S : St c φ s pn) (M : Fm c Gs Ds env σ φ s.heap) (hi : i ∈ Ds) (hu : Is c φ u v) (hmu : ∀ a, mu env Ds a → φ a = none ∧ some a ≠ c.p)
    (P : ∀ s', ExtU c (mu env Ds) φ s φ s' → St c φ s' pn → Fm c Gs Ds env (set σ i u) φ s'.heap → Q () s') : wpAny (model c.prog c.w) A (assign (.Name (nm i) p) env v) Q E s :=
  wpAny_assign_Name (store_ok S M hi hu hmu P)

theorem chkT_name {x : Nat} {t : PySem.Expr} {M : PySem.Expr → Prop} (h : chkT false [x] t = true) (k : ∀ p, M (.Name (nm x) p)) : M t := nameIs_is (i := x) h k
theorem chkT_tup {x y : Nat} {t : PySem.Expr} {M : PySem.Expr → Prop} (h : chkT true [x, y] t = true) (k : ∀ p q kk r, M (.Tuple [.Name (nm x) p, .Name (nm y) q] kk r)) : M t :=
  inTuple (M := M) (fun l kk r h => in2 (M := fun l => M (.Tuple l kk r)) (fun a b h => and3k h fun ha hb _ => nameIs_is (M := fun a => M (.Tuple [a, b] kk r)) ha fun p => nameIs_is (M := fun b => M (.Tuple [.Name (nm x) p, b] kk r)) hb fun q => k p q kk r) h) h
theorem isL_two {u1 u2 : V} {vl : List Value} {M : List Value → Prop} (h : IsL c φ [u1, u2] vl) (k : ∀ v1 v2, Is c φ u1 v1 → Is c φ u2 v2 → M [v1, v2]) : M vl := by
  cases vl with
  | nil => exact h.elim
  | cons v1 r => cases r with
    | nil => exact h.2.elim
    | cons v2 r => cases r with
      | nil => exact k v1 v2 h.1 h.2.1
      | cons => exact h.2.2.elim
theorem assign_ok {tt : Bool} {ts : List Nat} {t : PySem.Expr} {u : V} {v : Value} {σ' : Env} {Q : Unit → Shared → Prop} (hh : A.handled = none) (hc : chkT tt ts t = true) (hb : bindT σ tt ts u = some σ') (hd : ∀ i ∈ ts, i ∈ Ds) (S : St c φ s pn) (M : Fm c Gs Ds env σ φ s.heap) (hu : Is c φ u v) (hmu : ∀ a, mu env Ds a → φ a = none ∧ some a ≠ c.p)
    (P : ∀ s', ExtU c (mu env Ds) φ s φ s' → St c φ s' pn → Fm c Gs Ds env σ' φ s'.heap → Q () s') : wpAny (model c.prog c.w) A (assign t env v) Q E s := by
  refine bindT_go (M := fun tt ts u σ' => chkT tt ts t = true → (∀ i ∈ ts, i ∈ Ds) → Is c φ u v → (∀ s', ExtU c (mu env Ds) φ s φ s' → St c φ s' pn → Fm c Gs Ds env σ' φ s'.heap → Q () s') → wpAny (model c.prog c.w) A (assign t env v) Q E s)
    (fun x u hc hd hu P => chkT_name (M := fun t => wpAny (model c.prog c.w) A (assign t env v) Q E s) hc fun p => assign1_ok S M (hd x (.head _)) hu hmu P)
    (fun x y u1 u2 hc hd hu P => chkT_tup (M := fun t => wpAny (model c.prog c.w) A (assign t env v) Q E s) hc fun p q kk r => ?_) hb hc hd hu P
  obtain ⟨l, ⟨vl⟩, rfl, hl, hz, el⟩ := tup_is S hu
  obtain ⟨v1, v2, i1, i2, rfl⟩ : ∃ v1 v2, Is c φ u1 v1 ∧ Is c φ u2 v2 ∧ vl = [v1, v2] := isL_two (M := fun vl => ∃ v1 v2, Is c φ u1 v1 ∧ Is c φ u2 v2 ∧ vl = [v1, v2]) el fun v1 v2 a b => ⟨v1, v2, a, b, rfl⟩
  refine PyProof.Rows.assign_Tuple_tuple hh hl rfl rfl fun h' he => ?_
  obtain ⟨x₁, S₁⟩ := S.keeps (h' := h') (tk := s.toks) fun b o e => he b o (Nat.ne_of_lt (Heap.lt_size e)) e
  refine assignInOrder_cons ?_
  refine assign1_ok S₁ (M.ext S x₁) (hd x (.head _)) (x₁.is S i1) hmu fun s₂ x₂ S₂ M₂ => ?_
  refine assignInOrder_cons ?_
  refine assign1_ok S₂ M₂ (hd y (.tail _ (.head _))) i2 hmu fun s₃ x₃ S₃ M₃ => assignInOrder_nil ?_
  exact P s₃ ((x₁.toU.mono (U' := mu env Ds) fun _ q => q).trans (x₂.trans x₃ fun a q => .inl q) fun a q => .inl q) S₃ M₃
end
end Mine

set_option autoImplicit false
namespace Mine
open PySem PySem.W PySem.Calls PyProof.Rows PyProof

section
variable {c : Cx} {A : Around} {s : Shared} {φ : Fz} {pn : Pn} {k m n : Nat} {E : Value → Shared → Prop} {env : PySem.Env} {σ : Env} {Gs Ds : List Nat} {F : Nat → List V → Tree V} {G : Nat → Int} {R : Result → Shared → Prop}

/-- the tests of a clause -/
noncomputable def testsOf (ifs : List PySem.Expr) (env : PySem.Env) : Sem Bool := forIn ifs true fun c r => if r = true then do let ok ← isTrue c env (eval c env); pure (ForInStep.yield ok) else pure (ForInStep.yield r)

/-- a turn of a clause that emits -/
noncomputable def emitTurn (e : PySem.Expr) (depth : Nat) (elt target : PySem.Expr) (ifs : List PySem.Expr) (p : Pos) (it acc : Value) (env : PySem.Env) : Sem Fin := do
  standAt p
  match ← pyNext it with
  | none => pure (.done .next)
  | some v =>
    letOwnedTupleGo target it v
    assign target env v
    let mut ok := true
    for c in ifs do
      if ok then ok ← isTrue c env (eval c env)
    if ok then
      (do let _ ← call (.builtin "list.append") [acc, ← eval elt env])
    again (.compLoop e depth it acc env)

theorem emit_rule {e elt target : PySem.Expr} {depth : Nat} {ifs : List PySem.Expr} {p : Pos} {it acc : Value} (hden : (model c.prog c.w).den (.compLoop e depth it acc env) = (emitTurn e depth elt target ifs p it acc env).onRaise (fun x => do noteFrame x env; theTreesLotGoes x))
    (hu : A.under (.compLoop e depth it acc env) = A) (hq : (Code.compLoop e depth it acc env).quiet = true) (I : Nat → Shared → Prop)
    (turn : ∀ n s, I n s → wpAny (model c.prog c.w) A (pyNext it) (fun r s₁ => match r with
      | none => R (.ok .next) s₁
      | some v => wpAny (model c.prog c.w) A (letOwnedTupleGo target it v) (fun _ s₁' => wpAny (model c.prog c.w) A (assign target env v) (fun _ s₂ =>
          wpAny (model c.prog c.w) A (testsOf ifs env) (fun ok s₃ =>
            if ok = true then wpAny (model c.prog c.w) A (eval elt env) (fun x s₄ =>
              wpAny (model c.prog c.w) A (call (.builtin "list.append") [acc, x]) (fun _ s₅ => ∃ m, m < n ∧ I m s₅) (notedBy (model c.prog c.w) A env fun e s' => R (.error e) s') s₄) (notedBy (model c.prog c.w) A env fun e s' => R (.error e) s') s₃
            else ∃ m, m < n ∧ I m s₃) (notedBy (model c.prog c.w) A env fun e s' => R (.error e) s') s₂) (notedBy (model c.prog c.w) A env fun e s' => R (.error e) s') s₁') (notedBy (model c.prog c.w) A env fun e s' => R (.error e) s') s₁) (notedBy (model c.prog c.w) A env fun e s' => R (.error e) s') s)
    (n : Nat) (h : I n s) : codeAny (model c.prog c.w) A (.compLoop e depth it acc env) R s := by
  refine codeAny_loop hq I (fun n s hI => ?_) n h
  rw [hu]
  rw [hden]
  refine wpAny_noted ?_
  refine wpAny_bind (wpAny_standAt (wpAny_bind (wpAny_mono (turn n s hI) (fun r s₁ h₁ => ?_) fun _ _ h' => h')))
  cases r with
  | none => exact wpAny_pure h₁
  | some v =>
    refine wpAny_bind (wpAny_mono h₁ (fun _ s₁' h₁' => wpAny_bind (wpAny_mono h₁' (fun _ s₂ h₂ => wpAny_bind (wpAny_mono (show wpAny _ _ (testsOf ifs env) _ _ _ from h₂) (fun ok s₃ h₃ => ?_) fun _ _ h' => h')) fun _ _ h' => h')) fun _ _ h' => h')
    cases ok with
    | false => exact wpAny_pure ⟨rfl, h₃⟩
    | true => exact wpAny_bind (wpAny_bind (wpAny_mono h₃ (fun x s₄ h₄ => wpAny_bind (wpAny_mono h₄ (fun _ s₅ h₅ => wpAny_pure (wpAny_pure ⟨rfl, h₅⟩)) fun _ _ h' => h')) fun _ _ h' => h'))

theorem Fm.less {σ' : Env} {h : Heap} (M : Fm c Gs Ds env σ φ h) (hs : ∀ i u, get σ' i = some u → get σ i = some u) : Fm c Gs Ds env σ' φ h :=
  ⟨⟨M.kind, M.glb, M.blt, M.gs, M.cl, M.loc, M.apart, fun i u e => M.dom i u (hs i u e), fun i u e => M.vars i u (hs i u e)⟩, M.ns, M.sto⟩
theorem Fm.sub {Ds' : List Nat} {h : Heap} (M : Fm c Gs Ds env σ φ h) (hs : ∀ i ∈ Ds', i ∈ Ds) : Fm c Gs Ds' env σ φ h := ⟨M.toRd, M.ns, fun i hi => M.sto i (hs i hi)⟩
/-- the frame's view of a heap in which its own places stand as they stood -/
theorem Fm.heap {h h' : Heap} (M : Fm c Gs Ds env σ φ h) (hk : ∀ a o, (a = env.locals ∨ ∃ x, env.cells.lookup x = some a) → h.get? a = some o → h'.get? a = some o) : Fm c Gs Ds env σ φ h' where
  kind := M.kind
  glb := M.glb
  blt := M.blt
  gs := M.gs
  cl := M.cl
  loc := M.loc
  apart := M.apart
  dom := M.dom
  vars := fun i u e => let ⟨v, a, b⟩ := M.vars i u e; ⟨v, a, by
    rcases b with ⟨e, m, hn, hm⟩ | ⟨e, a, e1, e2, o, e3, e4⟩
    · exact .inl ⟨e, m, hn.at' fun o q => hk _ _ (.inl rfl) q, hm⟩
    · exact .inr ⟨e, a, e1, e2, o, hk _ _ (.inr ⟨_, e1⟩) e3, e4⟩⟩
  ns := let ⟨m, x⟩ := M.ns; ⟨m, x.at' fun o q => hk _ _ (.inl rfl) q⟩
  sto := fun i hi => ⟨(M.sto i hi).1, (M.sto i hi).2.imp id fun ⟨e, a, v, e1, ⟨o, e2, e3⟩, e4⟩ => ⟨e, a, v, e1, ⟨o, hk _ _ (.inr ⟨_, e1⟩) e2, e3⟩, e4⟩⟩

theorem append_at' {D : Addr} {its : Array Value} {nn : Nat} {x : Value} {Q : Value → Shared → Prop} (ho : s.heap.get? D = some { cls := .type "list", data := .seq its nn })
    (h : ∀ h', Heap.SameBut D s.heap h' → h'.get? D = some { cls := .type "list", data := .seq (its.push x) (nn + 1) } → Q .none { s with heap := h' })
    (hsz : its.size ≤ sizeLine) : wpAny (model c.prog c.w) A (call (.builtin "list.append") [.ref D, x]) Q E s := append_at ho h hsz

/-- what a loop that fills a list keeps -/
inductive LoopInv (c : Cx) (X : Fz → Shared → Prop) (M : Fz → Heap → Prop) (It : Nat → Heap → Prop) (φi : Fz) (I D L : Addr) (bnd : Nat → Nat) (outs₀ : List V) (T : Nat → Pn → List V → Prop) (top kk : Nat) (s' : Shared) : Prop
  | mk (φ' : Fz) (pn' : Pn) (outs : List V) (ys : Array Value) (nn j : Nat) (hkk : kk = top + 1 - j) (hj : j ≤ top) (x : X φ' s') (up : ∀ a o, φi a = some o → φ' a = some o) (S : St c φ' s' pn') (m : M φ' s'.heap) (st : It j s'.heap)
    (hD : s'.heap.get? D = some { cls := .type "list", data := .seq ys nn }) (hsz : ys.size ≤ bnd j) (hys : IsL c φ' (outs₀ ++ outs) ys.toList) (fI : φ' I = none) (fD : φ' D = none) (fL : φ' L = none) (h : T j pn' outs) : LoopInv c X M It φi I D L bnd outs₀ T top kk s'
theorem emit_loop {e elt target : PySem.Expr} {depth : Nat} {ifs : List PySem.Expr} {p : Pos} {I D : Addr} {items : List V} {tt : Bool} {ts : List Nat} {σ₀ : Env} {test : Env → Tree Bool} {el : Env → Tree V}
    {φi : Fz} {outs₀ : List V} {ys₀ : Array Value} {nn₀ : Nat} {K : Pn → List V → Prop}
    (hden : (model c.prog c.w).den (.compLoop e depth (.ref I) (.ref D) env) = (emitTurn e depth elt target ifs p (.ref I) (.ref D) env).onRaise (fun x => do noteFrame x env; theTreesLotGoes x))
    (hu : A.under (.compLoop e depth (.ref I) (.ref D) env) = A) (hq : (Code.compLoop e depth (.ref I) (.ref D) env).quiet = true)
    (R0 : Room A k) (hct : chkT tt ts target = true) (hlen : items.length + outs₀.length ≤ sizeLine) (it : Iter c A I items φi)
    (hback : ∀ i u σ' v, bindT σ₀ tt ts v = some σ' → get σ₀ i = some u → get σ' i = some u)
    (hte : ∀ (σ' : Env) (φ : Fz) (s : Shared) (pn : Pn) (K : Pn → Bool → Prop) (Q : Bool → Shared → Prop) (E : Value → Shared → Prop), St c φ s pn → Fm c Gs ts env σ' φ s.heap → (test σ').All pn K → PostB c φ s K Q → wpAny (model c.prog c.w) A (testsOf ifs env) Q E s)
    (hel : ∀ (σ' : Env) (φ : Fz) (s : Shared) (pn : Pn) (K : Pn → V → Prop) (Q : Value → Shared → Prop) (E : Value → Shared → Prop), St c φ s pn → Fm c Gs ts env σ' φ s.heap → (el σ').All pn K → Post c φ s K Q → wpAny (model c.prog c.w) A (eval elt env) Q E s)
    (hnew : ∀ a, a = I ∨ a = D ∨ a = env.locals → some a ≠ c.p) (hDI : D ≠ I) (hID : ∀ x, env.cells.lookup x ≠ some I ∧ env.cells.lookup x ≠ some D) (hIL : I ≠ env.locals) (hDL : D ≠ env.locals)
    (hloc : ∀ i ∈ ts, env.kindOf (nm i) = some .local)
    (hR : ∀ (s' : Shared) (φ' : Fz) (pn' : Pn) (outs : List V) (ys : Array Value) (nn : Nat), K pn' outs → ExtU c (fun a => a = I ∨ a = D ∨ a = env.locals) φ s φ' s' → St c φ' s' pn' → Fm c Gs ts env σ₀ φ' s'.heap → s'.heap.get? D = some { cls := .type "list", data := .seq ys nn } → ys.size ≤ outs₀.length + items.length → IsL c φ' (outs₀ ++ outs) ys.toList → φ' D = none → φ' env.locals = none → R (.ok .next) s')
    (hup : ∀ a o, φi a = some o → φ a = some o) (S : St c φ s pn) (M : Fm c Gs ts env σ₀ φ s.heap) (st : it.St 0 s.heap) (hD : s.heap.get? D = some { cls := .type "list", data := .seq ys₀ nn₀ }) (hys : IsL c φ outs₀ ys₀.toList) (hφ : φ I = none ∧ φ D = none ∧ φ env.locals = none)
    (h : (compL (itemF (bindT σ₀ tt ts) test el) items).All pn K) : codeAny (model c.prog c.w) A (.compLoop e depth (.ref I) (.ref D) env) R s := by
  refine emit_rule hden hu hq
    (LoopInv c (ExtU c (fun a => a = I ∨ a = D ∨ a = env.locals) φ s) (Fm c Gs ts env σ₀) it.St φi I D env.locals (outs₀.length + ·) outs₀ (fun j pn' outs => (compL (itemF (bindT σ₀ tt ts) test el) (items.drop j)).All pn' fun q vs => K q (outs ++ vs)) items.length) ?_ (items.length + 1)
    (.mk φ pn [] ys₀ nn₀ 0 rfl (Nat.zero_le _) ExtU.refl hup S M st hD (by rw [← Array.length_toList, ← hys.length]; exact Nat.le_refl _) (by rw [List.append_nil]; exact hys) hφ.1 hφ.2.1 hφ.2.2 h)
  intro kk s' hI
  refine via fun GG ret => ?_
  cases hI with | mk φ' pn' outs ys nn j hkk hj x1 up1 S1 M1 st1 hD1 hsz hys1 fI1 fD1 fL1 h1 =>
  have muI : ∀ a, a = I ∨ a = D ∨ a = env.locals → φ' a = none ∧ some a ≠ c.p := fun a ha => ⟨ha.elim (fun q => q ▸ fI1) fun ha => ha.elim (fun q => q ▸ fD1) fun q => q ▸ fL1, hnew a ha⟩
  -- a turn of new places keeps the walk
  have turnNew : ∀ {φ' : Fz} {s' : Shared} {U : Addr → Prop} {φ'' : Fz} {s'' : Shared}, ExtU c (fun a => a = I ∨ a = D ∨ a = env.locals) φ s φ' s' → ExtU c U φ' s' φ'' s'' → (∀ a, U a → a = I ∨ a = D ∨ a = env.locals) → ExtU c (fun a => a = I ∨ a = D ∨ a = env.locals) φ s φ'' s'' :=
    fun x y hU => x.trans y fun a u => .inl (hU a u)
  by_cases hlt : j < items.length
  · refine ret (it.W.item j s' _ _ hlt st1 fun v h' tk hP hst hk => ?_)
    refine via fun GG ret => ?_
    obtain ⟨u, hu, hv⟩ := it.hP j v hP
    have hvu : Is c φ' u v := Is.mono up1 u hv
    obtain ⟨o₁, hI₁, hcls⟩ := it.cls _ _ hst
    obtain ⟨y2, S2⟩ := S1.turn (U := (· = I)) (h' := h') (tk := tk) (fun a q => q ▸ muI I (.inl rfl)) (fun a o q e => hk a o (by simpa using q) e)
    have x2 := turnNew x1 y2 fun a q => .inl q
    have M2 : Fm c Gs ts env σ₀ φ' h' := M1.heap fun a o ha e => hk a o (by
      intro q
      rw [List.mem_singleton] at q
      rw [q] at ha
      rcases ha with ha | ⟨z, ha⟩
      · exact hIL ha
      · exact (hID z).1 ha) e
    have hD2 : h'.get? D = some { cls := .type "list", data := .seq ys nn } := hk D _ (by simpa using hDI) hD1
    have hd : items.drop j = u :: items.drop (j + 1) := by
      obtain ⟨q, e⟩ := List.getElem?_eq_some_iff.mp hu
      rw [List.drop_eq_getElem_cons hlt, e]
    rw [hd] at h1
    simp only [compL] at h1
    have h1 := Tree.all_bind _ _ h1
    rw [itemF] at h1
    split at h1
    · rename_i σ' hb
      have hmu : ∀ a, mu env ts a → φ' a = none ∧ some a ≠ c.p := fun a ha => by
        rcases ha with q | ⟨i, hi, e1, _⟩
        · exact muI _ (.inr (.inr q))
        · rw [hloc i hi] at e1; cases e1
      refine ret (letOwned_ok hI₁ hcls (assign_ok R0.handled hct hb (fun i hi => hi) S2 M2 hvu hmu fun s₃ y3 S3 M3 => ?_))
      have muL : ∀ a, mu env ts a → a = I ∨ a = D ∨ a = env.locals := fun a ha => by
        rcases ha with q | ⟨i, hi, e1, _⟩
        · exact .inr (.inr q)
        · rw [hloc i hi] at e1; cases e1
      have x3 := turnNew x2 y3 muL
      have notmu : ∀ a, a ≠ env.locals → ¬ mu env ts a := fun a ha q => by
        rcases q with q | ⟨i, hi, e1, _⟩
        · exact ha q
        · rw [hloc i hi] at e1; cases e1
      have hD3 := y3.keep D _ (notmu D hDL) (muI D (.inr (.inl rfl))).2 hD2
      have keepSt : ∀ {s : Shared} {φa φb : Fz} {s'' : Shared}, (∀ a o, φi a = some o → φa a = some o) → (∀ a o, φa a = some o → s.heap.get? a = some o) → (∀ a o, φi a = some o → s''.heap.get? a = some o) → (∀ o, s.heap.get? I = some o → s''.heap.get? I = some o) → ∀ i, it.St i s.heap → it.St i s''.heap := fun h1 h2 h3 h4 i hst =>
        it.W.frame i _ _ hst fun b hb o e => by
          rcases it.hfp b hb with q | ⟨o', ho'⟩
          · rw [q] at e ⊢; exact h4 o e
          · have := h2 b o' (h1 b o' ho')
            rw [this] at e; cases e
            exact h3 b _ ho'
      have up3 : ∀ a o, φi a = some o → s₃.heap.get? a = some o := fun a o e => S3.sub a o (up1 a o e)
      have st3 : it.St (j + 1) s₃.heap := keepSt (φa := φ') (φb := φ') (s := { s' with heap := h', toks := tk }) up1 S2.sub up3 (fun o e => y3.keep I o (notmu I hIL) (muI I (.inl rfl)).2 e) _ hst
      refine hte σ' φ' s₃ pn' _ _ _ S3 M3 (Tree.all_bind _ _ h1) fun b φ₄ s₄ pn₄ h4 y4 S4 => ?_
      have x4 := turnNew x3 (y4.toU (U := fun a => a = I ∨ a = D ∨ a = env.locals)) fun _ u => u
      have M4 := M3.ext S3 y4
      have live3 : ∀ a, a = I ∨ a = D ∨ a = env.locals → s₃.heap.get? a ≠ none := fun a ha => by
        rcases ha with q | q | q
        · rw [q, y3.keep I _ (notmu I hIL) (muI I (.inl rfl)).2 hI₁]; simp
        · rw [q, hD3]; simp
        · obtain ⟨mm, hm⟩ := M3.ns; rw [q]; exact ns_live hm
      have fz4 : ∀ a, a = I ∨ a = D ∨ a = env.locals → φ₄ a = none := fun a ha => (y4.fz a (live3 a ha)).trans (muI a ha).1
      have hD4 := y4.keep D _ (muI D (.inr (.inl rfl))).2 hD3
      have up4 : ∀ a o, φi a = some o → φ₄ a = some o := fun a o e => y4.up S3 a o (up1 a o e)
      have st4 : it.St (j + 1) s₄.heap := keepSt (φa := φ') (φb := φ₄) up1 S3.sub (fun a o e => S4.sub a o (up4 a o e)) (fun o e => y4.keep I o (muI I (.inl rfl)).2 e) _ st3
      have hys4 : IsL c φ₄ (outs₀ ++ outs) ys.toList := IsL.mono (y4.up S3) _ hys1
      have M4' := M4.less fun i w e => hback i w σ' u hb e
      refine via fun GG ret => ?_
      cases b with
      | false =>
        have h4 := Tree.all_bind _ _ h4
        refine ret ?_
        rw [if_neg Bool.false_ne_true]
        exact ⟨items.length + 1 - (j + 1), hkk ▸ by omega, .mk φ₄ pn₄ outs ys nn (j + 1) rfl hlt x4 up4 S4 M4' st4 hD4 (Nat.le_succ_of_le hsz) hys4 (fz4 _ (.inl rfl)) (fz4 _ (.inr (.inl rfl))) (fz4 _ (.inr (.inr rfl))) h4⟩
      | true =>
        refine ret ?_
        rw [if_pos rfl]
        refine hel σ' φ₄ s₄ pn₄ _ _ _ S4 M4 (Tree.all_bind _ _ h4) fun w u5 φ₅ s₅ pn₅ h5 y5 S5 i5 => ?_
        have h5 := Tree.all_bind _ _ h5
        have x5 := turnNew x4 (y5.toU (U := fun a => a = I ∨ a = D ∨ a = env.locals)) fun _ u => u
        have M5 := M4'.ext S4 y5
        have live4 : ∀ a, a = I ∨ a = D ∨ a = env.locals → s₄.heap.get? a ≠ none := fun a ha => y4.live a (live3 a ha)
        have fz5 : ∀ a, a = I ∨ a = D ∨ a = env.locals → φ₅ a = none := fun a ha => (y5.fz a (live4 a ha)).trans (fz4 a ha)
        have hD5 := y5.keep D _ (muI D (.inr (.inl rfl))).2 hD4
        have up5 : ∀ a o, φi a = some o → φ₅ a = some o := fun a o e => y5.up S4 a o (up4 a o e)
        have st5 : it.St (j + 1) s₅.heap := keepSt (φa := φ₄) (φb := φ₅) up4 S4.sub (fun a o e => S5.sub a o (up5 a o e)) (fun o e => y5.keep I o (muI I (.inl rfl)).2 e) _ st4
        have hys5 : IsL c φ₅ (outs₀ ++ outs) ys.toList := IsL.mono (y5.up S4) _ hys4
        refine append_at' hD5 (fun h6 hs6 hD6 => ?_) (by omega)
        obtain ⟨y6, S6⟩ := S5.turn (U := (· = D)) (h' := h6) (tk := s₅.toks) (fun a q => ⟨by rw [q]; exact fz5 D (.inr (.inl rfl)), by rw [q]; exact (muI D (.inr (.inl rfl))).2⟩) (fun a o q e => (hs6.2 a q).trans e)
        have x6 := turnNew x5 y6 fun a q => .inr (.inl q)
        refine ⟨items.length + 1 - (j + 1), hkk ▸ by omega, .mk φ₅ pn₅ (outs ++ [u5]) (ys.push w) (nn + 1) (j + 1) rfl hlt x6 up5 S6 ?_ ?_ hD6 (Array.size_push .. ▸ Nat.succ_le_succ hsz) ?_ (fz5 _ (.inl rfl)) (fz5 _ (.inr (.inl rfl))) (fz5 _ (.inr (.inr rfl))) ?_⟩
        · exact M5.heap fun a o ha e => (hs6.2 a (by
            intro q
            rw [q] at ha
            rcases ha with ha | ⟨z, ha⟩
            · exact hDL ha
            · exact (hID z).2 ha)).trans e
        · exact keepSt (φa := φ₅) (φb := φ₅) (s := s₅) (s'' := { s₅ with heap := h6 }) up5 S5.sub (fun a o e => S6.sub a o (up5 a o e)) (fun o e => (hs6.2 I (Ne.symm hDI)).trans e) _ st5
        · rw [Array.toList_push, ← List.append_assoc]
          exact hys5.append ⟨i5, trivial⟩
        · exact Tree.all_mono _ _ h5 fun q vs h => by rw [List.append_assoc]; exact h
    · exact h1.elim
  · have hje : j = items.length := by omega
    subst hje
    refine ret (it.W.done s' _ _ st1 fun h' tk hk => ?_)
    rw [List.drop_length] at h1
    replace h1 : K pn' (outs ++ []) := h1
    rw [List.append_nil] at h1
    obtain ⟨y2, S2⟩ := S1.turn (U := (· = I)) (h' := h') (tk := tk) (fun a q => q ▸ muI I (.inl rfl)) (fun a o q e => hk a o (by simpa using q) e)
    have x2 := turnNew x1 y2 fun a q => .inl q
    refine hR _ φ' pn' outs ys nn h1 x2 S2 ?_ (hk D _ (by simpa using hDI) hD1) hsz hys1 fD1 fL1
    exact M1.heap fun a o ha e => hk a o (by
      intro q
      rw [List.mem_singleton] at q
      rw [q] at ha
      rcases ha with ha | ⟨z, ha⟩
      · exact hIL ha
      · exact (hID z).1 ha) e
end
end Mine

set_option autoImplicit false
namespace Mine
open PySem PySem.W PySem.Calls PyProof.Rows PyProof

section
variable {c : Cx} {A : Around} {s : Shared} {φ : Fz} {pn : Pn} {k m n : Nat} {E : Value → Shared → Prop} {env : PySem.Env} {σ : Env} {Gs Ds : List Nat} {F : Nat → List V → Tree V} {G : Nat → Int} {R : Result → Shared → Prop}

noncomputable def clOf (env : PySem.Env) : List (Str × NameKind) → List (Str × Addr) → List (Str × Addr)
  | [], acc => acc
  | (n, k) :: r, acc => if k = .free then clOf env r ((n, (env.cells.lookup n).getD 0) :: acc) else clOf env r acc
theorem closure_eq {sc : Scope} (h : ∀ x ∈ sc.names, x.2 = .free → (env.cells.lookup x.1).isSome = true) : closureFor sc env = pure (clOf env sc.names []) := by
  have key : ∀ (l : List (Str × NameKind)) (acc : List (Str × Addr)), (∀ x ∈ l, x.2 = .free → (env.cells.lookup x.1).isSome = true) →
      (forIn l acc fun (x : Str × NameKind) (r : List (Str × Addr)) => if (x.2 == NameKind.free) = true then do let a ← cellOf env x.1; pure (ForInStep.yield ((x.1, a) :: r)) else pure (ForInStep.yield r) : Sem (List (Str × Addr))) = pure (clOf env l acc) := by
    intro l
    induction l with
    | nil => intro acc _; rfl
    | cons x l ih =>
      intro acc h
      obtain ⟨n, k⟩ := x
      have hl : ∀ x ∈ l, x.2 = .free → (env.cells.lookup x.1).isSome = true := fun y hy => h y (.tail _ hy)
      rw [List.forIn_cons]
      by_cases hk : k = .free
      · subst hk
        obtain ⟨a, ha⟩ := Option.isSome_iff_exists.mp (h (n, .free) (.head _) rfl)
        simp only [beq_self_eq_true, if_true, cellOf, ha, clOf, Option.getD_some]
        rw [pure_bind, pure_bind]
        exact ih _ hl
      · have hb : (k == NameKind.free) = false := by simpa using hk
        simp only [hb, Bool.false_eq_true, if_false, clOf, hk]
        rw [pure_bind]
        exact ih _ hl
  unfold closureFor
  show (forIn sc.names [] _ >>= fun r => pure r) = _
  have := key sc.names [] h
  rw [show (forIn sc.names ([] : List (Str × Addr)) fun (x : Str × NameKind) (r : List (Str × Addr)) => match x with
      | (name, kind) => if (kind == NameKind.free) = true then do let a ← cellOf env name; pure (ForInStep.yield ((name, a) :: r)) else pure (ForInStep.yield r) : Sem (List (Str × Addr))) = pure (clOf env sc.names []) from this]
  rfl
theorem clOf_agree : ∀ (l : List (Str × NameKind)) (acc : List (Str × Addr)), (∀ x ∈ l, x.2 = .free → (env.cells.lookup x.1).isSome = true) → (∀ p ∈ acc, env.cells.lookup p.1 = some p.2) →
    (∀ p ∈ clOf env l acc, env.cells.lookup p.1 = some p.2) ∧ (∀ x, (x, NameKind.free) ∈ l ∨ (∃ a, (x, a) ∈ acc) → ∃ a, (x, a) ∈ clOf env l acc)
  | [], acc, _, h => ⟨h, fun x hx => hx.elim (fun q => nomatch q) id⟩
  | (n, k) :: r, acc, h, ha => by
    have hr : ∀ x ∈ r, x.2 = .free → (env.cells.lookup x.1).isSome = true := fun y hy => h y (.tail _ hy)
    simp only [clOf]
    by_cases hk : k = .free
    · subst hk
      simp only [if_true]
      obtain ⟨a, e⟩ := Option.isSome_iff_exists.mp (h (n, .free) (.head _) rfl)
      have := clOf_agree r ((n, (env.cells.lookup n).getD 0) :: acc) hr (fun p hp => by
        rcases List.mem_cons.mp hp with rfl | hp
        · rw [e]; rfl
        · exact ha p hp)
      refine ⟨this.1, fun x hx => this.2 x ?_⟩
      rcases hx with hx | ⟨a', hx⟩
      · rcases List.mem_cons.mp hx with q | hx
        · cases q; exact .inr ⟨_, .head _⟩
        · exact .inl hx
      · exact .inr ⟨a', .tail _ hx⟩
    · simp only [hk, if_false]
      have := clOf_agree r acc hr ha
      refine ⟨this.1, fun x hx => this.2 x (hx.imp (fun hx => ?_) id)⟩
      rcases List.mem_cons.mp hx with q | hx
      · cases q; exact absurd rfl hk
      · exact hx
theorem mem_of_lookup' {α β : Type} [BEq α] [LawfulBEq α] {x : α} {b : β} : ∀ {l : List (α × β)}, l.lookup x = some b → (x, b) ∈ l
  | (y, d) :: r, h => by
    rw [List.lookup_cons] at h
    split at h
    · rename_i q; cases h; rw [beq_iff_eq.mp q]; exact .head _
    · exact .tail _ (mem_of_lookup' h)
theorem lookup_of_mem' {α β : Type} [BEq α] [LawfulBEq α] {x : α} {b : β} : ∀ {l : List (α × β)}, (x, b) ∈ l → ∃ d, l.lookup x = some d
  | (y, d) :: r, h => by
    rw [List.lookup_cons]
    split
    · exact ⟨_, rfl⟩
    · rename_i q
      rcases List.mem_cons.mp h with e | h
      · cases e; simp at q
      · exact lookup_of_mem' h
theorem clOf_lookup {l : List (Str × NameKind)} (h : ∀ x ∈ l, x.2 = .free → (env.cells.lookup x.1).isSome = true) :
    (∀ x a, (clOf env l []).lookup x = some a → env.cells.lookup x = some a) ∧ ∀ x, (x, NameKind.free) ∈ l → (clOf env l []).lookup x = env.cells.lookup x := by
  obtain ⟨h1, h2⟩ := clOf_agree (env := env) l [] h (fun _ hp => nomatch hp)
  have a1 : ∀ x a, (clOf env l []).lookup x = some a → env.cells.lookup x = some a := fun x a e => h1 (x, a) (mem_of_lookup' e)
  refine ⟨a1, fun x hx => ?_⟩
  obtain ⟨a, ha⟩ := h2 x (.inl hx)
  obtain ⟨d, hd⟩ := lookup_of_mem' ha
  rw [hd, a1 x d hd]

theorem lookup_map_kind {f : Str → NameKind → NameKind} : ∀ (l : List (Str × NameKind)) (x : Str), (l.map fun p => (p.1, f p.1 p.2)).lookup x = (l.lookup x).map (f x)
  | [], _ => rfl
  | (n, k) :: r, x => by
    simp only [List.map_cons, List.lookup_cons]
    cases q : x == n with
    | true => rw [← beq_iff_eq.mp q]; rfl
    | false => exact lookup_map_kind r x
theorem relabel_names (sc : Scope) (env : PySem.Env) : (relabel sc env).names = sc.names.map fun p => (p.1, if (p.2 == .free && env.scope.kind == .function && env.kindOf p.1 == some .cell) = true then NameKind.cell else p.2) := by
  unfold relabel
  simp only
  refine List.map_congr_left fun p _ => ?_
  obtain ⟨n, k⟩ := p
  simp only
  split <;> rfl
theorem relabel_lookup (sc : Scope) (env : PySem.Env) (x : Str) : (relabel sc env).names.lookup x = (sc.names.lookup x).map fun kd => if (kd == .free && env.scope.kind == .function && env.kindOf x == some .cell) = true then NameKind.cell else kd := by
  rw [relabel_names]
  exact lookup_map_kind (f := fun n kd => if (kd == .free && env.scope.kind == .function && env.kindOf n == some .cell) = true then NameKind.cell else kd) sc.names x

theorem bound_get {σ : Env} {cap : List Nat} (h : bound σ cap = true) {i : Nat} (hi : i ∈ cap) : ∃ u, get σ i = some u := by
  have := List.all_eq_true.mp h i hi
  exact Option.isSome_iff_exists.mp this

structure ScopeFacts (sc : Scope) (ts cap gl : List Nat) : Prop where
  kind : sc.kind = .function
  nocell : ∀ x ∈ sc.names, x.2 ≠ .cell
  names : ∀ x ∈ sc.names, x.2 = .local → sc.names.lookup x.1 = some .local
  tsOk : ∀ i ∈ ts, sc.names.lookup (nm i) = some .local ∧ i < 56
  capOk : ∀ i ∈ cap, sc.names.lookup (nm i) = some .free
  glOk : ∀ g ∈ gl, sc.names.lookup (fnm g) = some .globalImplicit ∧ g < 1000
  free : ∀ x ∈ sc.names, x.2 = .free → ∃ i ∈ cap, x.1 = nm i
theorem scopeFacts {sc : Scope} {ts cap gl : List Nat} (h : compScope sc ts cap gl = true) : ScopeFacts sc ts cap gl := by
  simp only [compScope, Bool.and_eq_true, decide_eq_true_eq, List.all_eq_true, kindIn, Bool.or_eq_true, Bool.not_eq_true', decide_eq_false_iff_not] at h
  obtain ⟨⟨⟨⟨⟨⟨⟨h1, h2⟩, h3⟩, h4⟩, h5⟩, h6⟩, h7⟩, h8⟩ := h
  refine ⟨h1, h2, fun x hx e => (h3 x hx).elim (fun q => absurd e q) id, fun i hi => ⟨(h4 i hi).1, Nat.blt_eq.mp (h4 i hi).2⟩, h5, fun g hg => ⟨h6 g hg, Nat.blt_eq.mp (h8 g hg)⟩, fun x hx e => ?_⟩
  rcases h7 x hx with q | q
  · exact absurd e q
  · obtain ⟨i, hi, q⟩ := List.any_eq_true.mp q
    exact ⟨i, hi, eq_of_strEq q⟩

/-- the comprehension's own frame -/
theorem comp_frame {sc : Scope} {ts cap gl : List Nat} {C : Addr} {s' : Shared} {mm : Str → Option Value} (SF : ScopeFacts sc ts cap gl) (D : Rd c Gs env σ φ s.heap) (hcap : ∀ i ∈ cap, 1000 + i ∈ Gs) (hb : bound σ cap = true)
    (hk : ∀ a o, s.heap.get? a = some o → s'.heap.get? a = some o) (hC : s.heap.get? C = none) (hCp : some C ≠ c.p) (hns : s'.heap.Ns C mm) :
    Fm c (inGl gl cap) ts (compEnvC sc (clOf env sc.names []) C env) (only σ cap) φ s'.heap ∧ (∀ i ∈ ts, (compEnvC sc (clOf env sc.names []) C env).kindOf (nm i) = some .local) ∧
      (∀ x a, (compEnvC sc (clOf env sc.names []) C env).cells.lookup x = some a → s.heap.get? a ≠ none) ∧ closureFor sc env = pure (clOf env sc.names []) := by
  have cell : ∀ i ∈ cap, ∃ u v a, get σ i = some u ∧ Is c φ u v ∧ env.cells.lookup (nm i) = some a ∧ some a ≠ c.p ∧ s.heap.IsCell a (some v) := fun i hi => by
    obtain ⟨u, hu⟩ := bound_get hb hi
    obtain ⟨v, hv, hat⟩ := D.vars i u hu
    obtain ⟨a, e1, e2, e3⟩ := hat.cellNe (D.cl i (hcap i hi))
    exact ⟨u, v, a, hu, hv, e1, e2, e3⟩
  have hfree : ∀ x ∈ sc.names, x.2 = .free → (env.cells.lookup x.1).isSome = true := fun x hx e => by
    obtain ⟨i, hi, q⟩ := SF.free x hx e
    obtain ⟨_, _, a, _, _, e1, _⟩ := cell i hi
    rw [q, e1]; rfl
  obtain ⟨l1, l2⟩ := clOf_lookup hfree
  have live : ∀ x a, (clOf env sc.names []).lookup x = some a → s.heap.get? a ≠ none := fun x a e => by
    have hm := mem_of_lookup' e
    have : ∃ y ∈ sc.names, y.2 = NameKind.free ∧ y.1 = x := by
      have key : ∀ (l : List (Str × NameKind)) (acc : List (Str × Addr)), (x, a) ∈ clOf env l acc → (x, a) ∈ acc ∨ ∃ y ∈ l, y.2 = NameKind.free ∧ y.1 = x := by
        intro l
        induction l with
        | nil => intro acc h; exact .inl h
        | cons p r ih =>
          intro acc h
          obtain ⟨n, kd⟩ := p
          simp only [clOf] at h
          by_cases hk : kd = .free
          · simp only [hk, if_true] at h
            rcases ih _ h with q | ⟨y, hy, q⟩
            · rcases List.mem_cons.mp q with q | q
              · cases q; exact .inr ⟨_, .head _, hk, rfl⟩
              · exact .inl q
            · exact .inr ⟨y, .tail _ hy, q⟩
          · simp only [hk, if_false] at h
            rcases ih _ h with q | ⟨y, hy, q⟩
            · exact .inl q
            · exact .inr ⟨y, .tail _ hy, q⟩
      rcases key _ _ hm with q | q
      · cases q
      · exact q
    obtain ⟨y, hy, e1, rfl⟩ := this
    obtain ⟨i, hi, q⟩ := SF.free y hy e1
    obtain ⟨_, v, a', _, _, e2, _, e3⟩ := cell i hi
    have := l1 _ _ e
    rw [q, e2] at this; cases this
    exact cell_live e3
  have kd : ∀ x, (compEnvC sc (clOf env sc.names []) C env).kindOf x = (sc.names.lookup x).map fun kd => if (kd == .free && env.scope.kind == .function && env.kindOf x == some .cell) = true then NameKind.cell else kd := fun x => relabel_lookup sc env x
  have kts : ∀ i ∈ ts, (compEnvC sc (clOf env sc.names []) C env).kindOf (nm i) = some .local := fun i hi => by rw [kd, (SF.tsOk i hi).1]; rfl
  have kcap : ∀ i ∈ cap, (compEnvC sc (clOf env sc.names []) C env).kindOf (nm i) = some .cell ∨ (compEnvC sc (clOf env sc.names []) C env).kindOf (nm i) = some .free := fun i hi => by
    rw [kd, SF.capOk i hi]
    simp only [Option.map_some]
    split
    · exact .inl rfl
    · exact .inr rfl
  refine ⟨⟨⟨SF.kind, D.glb, D.blt, fun g hg hlt => ?_, fun i hi => ?_, hCp, ⟨fun x a e q => ?_, fun x y a e1 e2 => D.apart.inj x y a (l1 x a e1) (l1 y a e2)⟩, fun i u e => D.dom i u (get_only σ cap i u e).2, fun i u e => ?_⟩, ⟨mm, hns⟩, fun i hi => ⟨(SF.tsOk i hi).2, .inl (kts i hi)⟩⟩, kts, live, closure_eq hfree⟩
  · simp only [inGl, List.mem_append, List.mem_map] at hg
    rcases hg with hg | ⟨i, _, rfl⟩
    · rw [kd, (SF.glOk g hg).1]; rfl
    · omega
  · simp only [inGl, List.mem_append, List.mem_map] at hi
    rcases hi with hi | ⟨j, hj, e⟩
    · have := (SF.glOk _ hi).2; omega
    · have : j = i := by omega
      subst this
      exact kcap j hj
  · have : a = C := q
    subst this
    exact live x a e hC
  · obtain ⟨hi, hg⟩ := get_only σ cap i u e
    obtain ⟨u', v, a, h1, h2, h3, h4, o, h5, h6⟩ := cell i hi
    rw [hg] at h1; cases h1
    have hm : (nm i, NameKind.free) ∈ sc.names := mem_of_lookup' (SF.capOk i hi)
    exact ⟨v, h2, .inr ⟨kcap i hi, a, by show (clOf env sc.names []).lookup (nm i) = some a; rw [l2 _ hm]; exact h3, h4, o, hk _ _ h5, h6⟩⟩

end
end Mine

set_option autoImplicit false
namespace Mine
open PySem PySem.W PySem.Calls PyProof.Rows PyProof

section
variable {c : Cx} {A : Around} {s : Shared} {φ : Fz} {pn : Pn} {k m n : Nat} {E : Value → Shared → Prop} {env : PySem.Env} {σ : Env} {Gs Ds : List Nat} {F : Nat → List V → Tree V} {G : Nat → Int} {R : Result → Shared → Prop}

theorem bindT_back {σ₀ σ' : Env} {tt : Bool} {ts : List Nat} {v : V} (h : bindT σ₀ tt ts v = some σ') {i : Nat} {u : V} (hi : i ∉ ts) (hg : get σ₀ i = some u) : get σ' i = some u := by
  refine bindT_go (M := fun _ ts _ σ' => i ∉ ts → get σ' i = some u) (fun x v hi => ?_) (fun x y v w hi => ?_) h hi
  · rw [get_set, if_neg (fun q : _ = _ => hi (by rw [q]; exact .head _)), hg]
  · rw [get_set, if_neg (fun q : _ = _ => hi (by rw [q]; exact .tail _ (.head _))), get_set, if_neg (fun q : _ = _ => hi (by rw [q]; exact .head _)), hg]

inductive CompGo (c : Cx) (φ : Fz) (s : Shared) (K : Pn → V → Prop) (D C : Addr) (s' : Shared) : Prop
  | mk (φ' : Fz) (pn' : Pn) (outs : List V) (ys : Array Value) (nn : Nat) (mm : Str → Option Value) (hK : K pn' (.list outs)) (x : Ext c φ s φ' s') (S : St c φ' s' pn') (hD : s'.heap.get? D = some { cls := .type "list", data := .seq ys nn }) (hz : ys.size ≤ sizeLine) (hys : IsL c φ' outs ys.toList) (fD : φ' D = none) (fC : φ' C = none) (ns : s'.heap.Ns C mm) : CompGo c φ s K D C s'
/-- the end of a comprehension, before its list is frozen -/
structure CompEnd (c : Cx) (φ : Fz) (s : Shared) (K : Pn → V → Prop) (D C : Addr) (s' : Shared) : Prop where
  go : CompGo c φ s K D C s'
  newD : s.heap.get? D = none ∧ some D ≠ c.p
  newC : s.heap.get? C = none ∧ some C ≠ c.p
  ne : D ≠ C

theorem new_ne (S : St c φ s pn) {a : Addr} (h : s.heap.get? a = none) : some a ≠ c.p := fun q => (S.fresh a q.symm).1 h
theorem na {a b : Nat} (h : a ≠ b) : @Ne Addr a b := h
theorem le_add1 {a b : Nat} (h : a ≤ b) : @LE.le Addr _ a b := h
theorem not_live {h : Heap} {a : Addr} (e : h.objs.size ≤ a) : h.get? a = none := by
  cases q : h.get? a with
  | none => rfl
  | some o => exact absurd (Heap.lt_size q) (Nat.not_lt.mpr e)

theorem comp_core (IH : SE c k F G n) (IT : STt c k F G n) {elt t it : PySem.Expr} {ifs : List PySem.Expr} {sc : Scope} {pos p : Pos} {as : Int} {xelt src : X} {tt : Bool} {ts cap gl : List Nat} {cond : Option X} {use : Option (Value → Sem Unit)} {K : Pn → V → Prop} {Q : Value → Shared → Prop}
    (hc : chkE k (m + 1) Gs (.ListComp elt [⟨t, it, ifs, as⟩] sc pos) (.comp xelt tt ts src cond cap gl) = true) (R0 : Room A k) (S : St c φ s pn) (D : Rd c Gs env σ φ s.heap)
    (h : (ev F G (n + 1) σ (.comp xelt tt ts src cond cap gl)).All pn K)
    (hfin : ∀ Da C s', CompEnd c φ s K Da C s' → compPost (model c.prog c.w) A E use Q (.ref Da) C (.ok .next) s') :
    wpAny (model c.prog c.w) A (comprehension (.ListComp elt [⟨t, it, ifs, as⟩] sc pos) sc env p (newList []) false (eval it env) use) Q E s := by
  replace hc : compChk (chkE k m) Gs elt t it ifs as sc xelt tt ts src cond cap gl = true := hc
  simp only [compChk, Bool.and_eq_true, decide_eq_true_eq] at hc
  obtain ⟨⟨⟨⟨⟨⟨has, hsc⟩, hcap⟩, hct⟩, hsrc⟩, helt⟩, hcond⟩ := hc
  subst has
  have SF := scopeFacts hsc
  have hcap' : ∀ i ∈ cap, 1000 + i ∈ Gs := fun i hi => by
    have := List.all_eq_true.mp hcap i hi
    simpa using this
  simp only [ev] at h
  obtain ⟨hb, h⟩ := guard_all h
  have h := Tree.all_bind _ _ h
  · have hclos : closureFor sc env = pure (clOf env sc.names []) :=
      (comp_frame (s' := { s with heap := s.heap.push { cls := .type "dict", data := .dict #[] } }) SF D hcap' hb (fun a o e => push_keeps _ _ e) (heap_fresh _) (new_ne S (heap_fresh _)) (Heap.Ns.new _ _)).2.2.2
    refine wpAny_comprehension_free (use := use) rfl (no_set hsrc) hclos SF.kind SF.names ?_
    refine IH m Gs it src hsrc A env σ φ s pn _ _ E R0 S D h fun v u φ₁ s₁ pn₁ h₁ x₁ S₁ i₁ => ?_
    cases hw : walkable u with
    | false => rw [hw] at h₁; cases itemsV u <;> simp only [Tree.All, Tree.upN, Tree.knP] at h₁
    | true =>
      cases hi : itemsV u with
      | none => rw [hw, hi] at h₁; simp only [Tree.All, Tree.upN, Tree.knP] at h₁
      | some items =>
        rw [hw, hi] at h₁
        dsimp only at h₁
        have h₁ := Tree.all_bind _ _ h₁
        simp only [Tree.All, Tree.upN, Tree.knP] at h₁
        refine iter_ok R0.handled S₁ i₁ hw hi fun hz ob It st0 hfr => ?_
        have D₁ := D.ext S x₁
        refine wpAny_newObj_type (wpAny_newFunctionEnv SF.nocell (by intro y hy; simp at hy) (fun h₄ hns₄ hsb₄ => ?_) SF.kind)
        dsimp only at hns₄ hsb₄ ⊢
        simp only [Heap.size_push] at hns₄ hsb₄ ⊢
        have hzI : (s₁.heap.push ob).objs.size = s₁.heap.objs.size + 1 := Heap.size_push _ _
        have keep : ∀ a o, s₁.heap.get? a = some o → h₄.get? a = some o := fun a o e => by
          have := ltN (Heap.lt_size e)
          exact hsb₄.extBut a o (na (by omega)) (push_keeps _ _ (push_keeps _ _ (push_keeps _ _ e)))
        have keepI : ∀ o, (s₁.heap.push ob).get? s₁.heap.objs.size = some o → h₄.get? s₁.heap.objs.size = some o := fun o e => hsb₄.extBut _ o (na (by omega)) (push_keeps _ _ (push_keeps _ _ e))
        have hD4 : h₄.get? (s₁.heap.objs.size + 1) = some { cls := .type "list", data := .seq #[] } := by
          refine hsb₄.extBut _ _ (na (by omega)) (push_keeps _ _ ?_)
          have := Heap.get?_push_size (s₁.heap.push ob) (o := { cls := .type "list", dict := none, data := .seq ([] : List Value).toArray }) rfl
          rwa [hzI] at this
        obtain ⟨x₄, S₄⟩ := S₁.keeps (h' := h₄) (tk := s₁.toks + ([] : List (Str × Value)).length) keep
        have nI : s₁.heap.get? s₁.heap.objs.size = none := heap_fresh _
        have nD : s₁.heap.get? (s₁.heap.objs.size + 1) = none := not_live (le_add1 (by omega))
        have nC : s₁.heap.get? (s₁.heap.objs.size + 1 + 1) = none := not_live (le_add1 (by omega))
        obtain ⟨M₄, kts, clive, _⟩ := comp_frame (s' := { s₁ with heap := h₄, toks := s₁.toks + ([] : List (Str × Value)).length }) (C := s₁.heap.objs.size + 1 + 1) SF D₁ hcap' hb keep nC (new_ne S₁ nC) hns₄
        have fz : ∀ a, s₁.heap.get? a = none → φ₁ a = none := fun a e => by
          cases q : φ₁ a with
          | none => rfl
          | some o => rw [S₁.sub a o q] at e; cases e
        have st4 : It.St 0 h₄ := It.W.frame 0 _ _ st0 fun b hb o e => by
          rcases It.hfp b hb with q | ⟨o', ho'⟩
          · rw [q] at e ⊢; exact keepI o e
          · have h1 := S₁.sub b o' ho'
            have h2 := push_keeps (o := ob) b _ h1
            rw [h2] at e; cases e
            exact keep b _ h1
        have ndisj : ∀ i ∈ cap, i ∉ ts := fun i hi q => by
          have h1 := SF.capOk i hi
          rw [(SF.tsOk i q).1] at h1; cases h1
        have loop : codeAny (model c.prog c.w) A (.compLoop (.ListComp elt [⟨t, it, ifs, 0⟩] sc pos) 0 (.ref s₁.heap.objs.size) (.ref (s₁.heap.objs.size + 1)) (compEnvC sc (clOf env sc.names []) (s₁.heap.objs.size + 1 + 1) env))
            (compPost (model c.prog c.w) A E use Q (.ref (s₁.heap.objs.size + 1)) (s₁.heap.objs.size + 1 + 1)) { s₁ with heap := h₄, toks := s₁.toks + ([] : List (Str × Value)).length } := by
          refine emit_loop (Gs := inGl gl cap) (σ₀ := only σ cap) (outs₀ := []) (test := testF (tv F G n) cond) (el := fun σ => ev F G n σ xelt) (K := fun q vs => K q (.list vs)) (φi := φ₁) (ys₀ := #[]) (nn₀ := 0) (pn := pn₁) (elt := elt) (ifs := ifs) (target := t)
            rfl rfl rfl R0 hct (by simpa using hz) It ?_ ?_ ?_ ?_ (na (by omega)) ?_ ?_ ?_ kts ?_ (fun _ _ e => e) S₄ M₄ st4 hD4 (by simp [IsL]) ⟨fz _ nI, fz _ nD, fz _ nC⟩ h₁
          · intro i u σ' v hbt hg
            exact bindT_back hbt (ndisj i (get_only σ cap i u hg).1) hg
          · intro σ' φ s pn K Q E S M h P
            cases cond with
            | none =>
              cases ifs with
              | nil => simp only [testF, Tree.All, Tree.upN, Tree.knP] at h; exact wpAny_pure (P.here S h)
              | cons _ _ => exact no hcond
            | some cx =>
              match ifs, hcond with
              | [ce], hcond => exact wpAny_tests_one (IT m _ ce cx hcond A _ σ' φ s pn K Q E R0 S M.toRd h P)
              | [], hcond => exact no hcond
              | _ :: _ :: _, hcond => exact no hcond
          · intro σ' φ s pn K Q E S M h P
            exact IH m _ elt xelt helt A _ σ' φ s pn K Q E R0 S M.toRd h P
          · rintro a (rfl | rfl | rfl)
            · exact new_ne S₁ nI
            · exact new_ne S₁ nD
            · exact new_ne S₁ nC
          · intro x
            exact ⟨fun q => clive x _ q nI, fun q => clive x _ q nD⟩
          · exact na (by show s₁.heap.objs.size ≠ s₁.heap.objs.size + 1 + 1; omega)
          · exact na (by show s₁.heap.objs.size + 1 ≠ s₁.heap.objs.size + 1 + 1; omega)
          · intro s' φ' pn' outs ys nn hK x' S' M' hD' hsz hys hφD hφC
            have x' : Ext c φ₁ s₁ φ' s' := (x₄.toU.trans x' fun _ u => .inl u).toExt fun a ha => by
              rcases ha with q | q | q <;> rw [q]
              · exact nI
              · exact nD
              · exact nC
            obtain ⟨mm, hmm⟩ := M'.ns
            have nn1 : ∀ a, s₁.heap.get? a = none → s.heap.get? a = none := fun a e => by
              cases q : s.heap.get? a with
              | none => rfl
              | some o => exact absurd e (x₁.live a (by rw [q]; simp))
            exact hfin _ _ s' ⟨⟨φ', pn', outs, ys, nn, mm, hK, x₁.trans x', S', hD', by simp at hsz; omega, by simpa using hys, hφD, hφC, hmm⟩, ⟨nn1 _ nD, new_ne S₁ nD⟩, ⟨nn1 _ nC, new_ne S₁ nC⟩, na (by omega)⟩
        exact codeAny_compStart_list loop (It.W.self 0 _ _ _ st4 loop)
end
end Mine

set_option autoImplicit false
namespace Mine
open PySem PySem.W PySem.Calls PyProof.Rows PyProof

section
variable {c : Cx} {A : Around} {s : Shared} {φ : Fz} {pn : Pn} {k m n : Nat} {E : Value → Shared → Prop} {env : PySem.Env} {σ : Env} {Gs Ds : List Nat} {F : Nat → List V → Tree V} {G : Nat → Int} {R : Result → Shared → Prop}

noncomputable def nestTurn (e t1 it1 it2 : PySem.Expr) (it acc : Value) (env : PySem.Env) : Sem Fin := do
  standAt it1.pos
  match ← pyNext it with
  | none => pure (.done .next)
  | some v =>
    letOwnedTupleGo t1 it v
    assign t1 env v
    let x ← eval it2 env
    standAt it2.pos
    let x ← foldedSetIterable it2 env x
    let _ ← runOwn (.compStart e 1 (← holding [x] (pyIter x)) acc env) env
    again (.compLoop e 0 it acc env)

theorem nest_rule {elt t1 it1 t2 it2 : PySem.Expr} {sc : Scope} {pos : Pos} {it acc : Value} (hs : ∀ x, foldedSetIterable it2 env x = pure x) (I : Nat → Shared → Prop)
    (turn : ∀ n s, I n s → wpAny (model c.prog c.w) A (pyNext it) (fun r s₁ => match r with
      | none => R (.ok .next) s₁
      | some v => wpAny (model c.prog c.w) A (letOwnedTupleGo t1 it v) (fun _ s₂ => wpAny (model c.prog c.w) A (assign t1 env v) (fun _ s₃ =>
          wpAny (model c.prog c.w) A (eval it2 env) (fun x s₄ => wpAny (model c.prog c.w) A (pyIter x) (fun i2 s₅ =>
            codeAny (model c.prog c.w) A (.compStart (.ListComp elt [⟨t1, it1, [], 0⟩, ⟨t2, it2, [], 0⟩] sc pos) 1 i2 acc env) (fun r s' => match r with | .ok _ => ∃ m, m < n ∧ I m s' | .error e => cameBackBy (model c.prog c.w) A env (notedBy (model c.prog c.w) A env fun e s' => R (.error e) s') e s') s₅)
            (notedBy (model c.prog c.w) A env fun e s' => R (.error e) s') s₄) (notedBy (model c.prog c.w) A env fun e s' => R (.error e) s') s₃) (notedBy (model c.prog c.w) A env fun e s' => R (.error e) s') s₂)
          (notedBy (model c.prog c.w) A env fun e s' => R (.error e) s') s₁) (notedBy (model c.prog c.w) A env fun e s' => R (.error e) s') s)
    (n : Nat) (h : I n s) : codeAny (model c.prog c.w) A (.compLoop (.ListComp elt [⟨t1, it1, [], 0⟩, ⟨t2, it2, [], 0⟩] sc pos) 0 it acc env) R s := by
  refine codeAny_loop rfl I (fun n s hI => ?_) n h
  show wpAny _ A ((nestTurn (.ListComp elt [⟨t1, it1, [], 0⟩, ⟨t2, it2, [], 0⟩] sc pos) t1 it1 it2 it acc env).onRaise (fun x => do noteFrame x env; theTreesLotGoes x)) _ _ s
  refine wpAny_noted ?_
  refine wpAny_bind (wpAny_standAt (wpAny_bind (wpAny_mono (turn n s hI) (fun r s₁ h₁ => ?_) fun _ _ h' => h')))
  cases r with
  | none => exact wpAny_pure h₁
  | some v =>
    refine wpAny_bind (wpAny_mono h₁ (fun _ s₂ h₂ => wpAny_bind (wpAny_mono h₂ (fun _ s₃ h₃ => wpAny_bind (wpAny_mono h₃ (fun x s₄ h₄ => wpAny_bind (wpAny_standAt (wpAny_bind (wpAny_of_eq (hs x) ?_)))) fun _ _ h' => h')) fun _ _ h' => h')) fun _ _ h' => h')
    refine wpAny_bind (wpAny_holding (wpAny_mono h₄ (fun i2 s₅ h₅ => wpAny_bind (wpAny_mono (wpAny_runOwn (Q := fun _ s' => ∃ m, m < n ∧ I m s') (codeAny_mono h₅ fun r s' hr => ?_)) (fun _ s' h' => wpAny_pure ⟨rfl, h'⟩) fun _ _ h' => h')) fun _ _ h' => h'))
    cases r <;> exact hr

theorem start1 {elt t1 it1 t2 it2 : PySem.Expr} {ifs1 ifs2 : List PySem.Expr} {sc : Scope} {pos : Pos} {it acc : Value}
    (h0 : codeAny (model c.prog c.w) A (.compLoop (.ListComp elt [⟨t1, it1, ifs1, 0⟩, ⟨t2, it2, ifs2, 0⟩] sc pos) 1 it acc env) R s)
    (h : wpAny (model c.prog c.w) A (pyIter it) (fun it' s' => codeAny (model c.prog c.w) A (.compLoop (.ListComp elt [⟨t1, it1, ifs1, 0⟩, ⟨t2, it2, ifs2, 0⟩] sc pos) 1 it' acc env) R s')
      (notedBy (model c.prog c.w) A env fun x s' => R (.error x) s') s) :
    codeAny (model c.prog c.w) A (.compStart (.ListComp elt [⟨t1, it1, ifs1, 0⟩, ⟨t2, it2, ifs2, 0⟩] sc pos) 1 it acc env) R s := by
  refine codeAny_of_tree ?_
  show wpAny _ _ ((compStart (.ListComp elt [⟨t1, it1, ifs1, 0⟩, ⟨t2, it2, ifs2, 0⟩] sc pos) 1 it acc env).onRaise (fun x => do noteFrame x env; standAt theWindowsPlace)) _ _ s
  refine wpAny_notedAt ?_
  unfold compStart
  show wpAny _ _ (ask >>= _) _ _ s
  refine wpAny_bind (wpAny_askSetting (wpAny_ite ?_))
  split
  · first
      | exact wpAny_bind (wpAny_pure (wpAny_pure (And.intro rfl h0)))
      | exact wpAny_pure (And.intro rfl h0)
  · first
      | exact wpAny_bind (wpAny_rule (wpAny_bind (wpAny_standAt (wpAny_bind (wpAny_mono h (fun it' s' h' => wpAny_pure (And.intro rfl h')) fun _ _ x => x)))))
      | (refine wpAny_bind (wpAny_rule ?_); show wpAny _ _ (standAt it2.pos >>= _) _ _ s; exact wpAny_bind (wpAny_standAt (wpAny_bind (wpAny_mono h (fun it' s' h' => wpAny_pure (And.intro rfl h')) fun _ _ x => x))))
theorem start0 {elt t1 it1 t2 it2 : PySem.Expr} {ifs1 ifs2 : List PySem.Expr} {sc : Scope} {pos : Pos} {it acc : Value}
    (h0 : codeAny (model c.prog c.w) A (.compLoop (.ListComp elt [⟨t1, it1, ifs1, 0⟩, ⟨t2, it2, ifs2, 0⟩] sc pos) 0 it acc env) R s)
    (h : wpAny (model c.prog c.w) A (pyIter it) (fun it' s' => codeAny (model c.prog c.w) A (.compLoop (.ListComp elt [⟨t1, it1, ifs1, 0⟩, ⟨t2, it2, ifs2, 0⟩] sc pos) 0 it' acc env) R s')
      (notedBy (model c.prog c.w) A env fun x s' => R (.error x) s') s) :
    codeAny (model c.prog c.w) A (.compStart (.ListComp elt [⟨t1, it1, ifs1, 0⟩, ⟨t2, it2, ifs2, 0⟩] sc pos) 0 it acc env) R s := codeAny_compStart_list h0 h

theorem comp2_core (IH : SE c k F G n) {elt it1 it2 : PySem.Expr} {n1 n2 : Str} {p1 p2 : Pos} {sc : Scope} {pos p : Pos} {as1 as2 : Int} {xelt src1 src2 : X} {t1 t2 : Nat} {cap gl : List Nat} {use : Option (Value → Sem Unit)} {K : Pn → V → Prop} {Q : Value → Shared → Prop}
    (hc : chkE k (m + 1) Gs (.ListComp elt [⟨.Name n1 p1, it1, [], as1⟩, ⟨.Name n2 p2, it2, [], as2⟩] sc pos) (.comp2 xelt t1 src1 t2 src2 cap gl) = true) (R0 : Room A k) (S : St c φ s pn) (D : Rd c Gs env σ φ s.heap)
    (h : (ev F G (n + 1) σ (.comp2 xelt t1 src1 t2 src2 cap gl)).All pn K)
    (hfin : ∀ Da C s', CompEnd c φ s K Da C s' → compPost (model c.prog c.w) A E use Q (.ref Da) C (.ok .next) s') :
    wpAny (model c.prog c.w) A (comprehension (.ListComp elt [⟨.Name n1 p1, it1, [], as1⟩, ⟨.Name n2 p2, it2, [], as2⟩] sc pos) sc env p (newList []) false (eval it1 env) use) Q E s := by
  replace hc : compChk2 (chkE k m) Gs elt n1 it1 as1 n2 it2 as2 sc xelt t1 src1 t2 src2 cap gl = true := hc
  refine and2k hc fun hc helt => and2k hc fun hc hsrc2 => and8k hc fun has1 has2 hsc hcap hn1 hn2 hne hsrc1 => ?_
  have has1 := of_decide_eq_true has1
  have has2 := of_decide_eq_true has2
  subst has1 has2
  rw [eq_of_strEq hn1, eq_of_strEq hn2]
  have SF := scopeFacts hsc
  have hcap' : ∀ i ∈ cap, 1000 + i ∈ Gs := fun i hi => by
    have := List.all_eq_true.mp hcap i hi
    simpa using this
  simp only [ev] at h
  have hb := (guard_all h).1
  have h := Tree.all_bind _ _ (guard_all h).2
  have hclos : closureFor sc env = pure (clOf env sc.names []) :=
    (comp_frame (s' := { s with heap := s.heap.push { cls := .type "dict", data := .dict #[] } }) SF D hcap' hb (fun a o e => push_keeps _ _ e) (heap_fresh _) (new_ne S (heap_fresh _)) (Heap.Ns.new _ _)).2.2.2
  refine wpAny_comprehension_free (use := use) rfl (no_set hsrc1) hclos SF.kind SF.names ?_
  refine IH m Gs it1 src1 hsrc1 A env σ φ s pn _ _ E R0 S D h fun v u φ₁ s₁ pn₁ h₁ x₁ S₁ i₁ => ?_
  cases u with
  | list items =>
    dsimp only at h₁
    have hlen := of_decide_eq_true (guard_all h₁).1
    have h₁ := Tree.all_bind _ _ (guard_all h₁).2
    refine iter_ok R0.handled S₁ i₁ rfl rfl fun hz ob It st0 hfr => ?_
    have D₁ := D.ext S x₁
    refine wpAny_newObj_type (wpAny_newFunctionEnv SF.nocell (fun y hy => nomatch hy) (fun h₄ hns₄ hsb₄ => ?_) SF.kind)
    refine via fun GG ret => ?_
    dsimp only at hns₄ hsb₄ ret
    simp only [Heap.size_push] at hns₄ hsb₄ ret
    have hzI : (s₁.heap.push ob).objs.size = s₁.heap.objs.size + 1 := Heap.size_push _ _
    have keep : ∀ a o, s₁.heap.get? a = some o → h₄.get? a = some o := fun a o e => by
      have := ltN (Heap.lt_size e)
      exact hsb₄.extBut a o (na (by omega)) (push_keeps _ _ (push_keeps _ _ (push_keeps _ _ e)))
    have keepI : ∀ o, (s₁.heap.push ob).get? s₁.heap.objs.size = some o → h₄.get? s₁.heap.objs.size = some o := fun o e => hsb₄.extBut _ o (na (by omega)) (push_keeps _ _ (push_keeps _ _ e))
    have hD4 : h₄.get? (s₁.heap.objs.size + 1) = some { cls := .type "list", data := .seq #[] } := by
      refine hsb₄.extBut _ _ (na (by omega)) (push_keeps _ _ ?_)
      have := Heap.get?_push_size (s₁.heap.push ob) (o := { cls := .type "list", dict := none, data := .seq ([] : List Value).toArray }) rfl
      rwa [hzI] at this
    have XS₄ := S₁.keeps (h' := h₄) (tk := s₁.toks + ([] : List (Str × Value)).length) keep
    have x₄ := XS₄.1
    have S₄ := XS₄.2
    have nI : s₁.heap.get? s₁.heap.objs.size = none := heap_fresh _
    have nD : s₁.heap.get? (s₁.heap.objs.size + 1) = none := not_live (le_add1 (by omega))
    have nC : s₁.heap.get? (s₁.heap.objs.size + 1 + 1) = none := not_live (le_add1 (by omega))
    have CF := comp_frame (s' := { s₁ with heap := h₄, toks := s₁.toks + ([] : List (Str × Value)).length }) (C := s₁.heap.objs.size + 1 + 1) SF D₁ hcap' hb keep nC (new_ne S₁ nC) hns₄
    have M₄ := CF.1
    have kts := CF.2.1
    have clive := CF.2.2.1
    clear CF
    have fz : ∀ a, s₁.heap.get? a = none → φ₁ a = none := fun a e => by
      cases q : φ₁ a with
      | none => rfl
      | some o => rw [S₁.sub a o q] at e; cases e
    have st4 : It.St 0 h₄ := It.W.frame 0 _ _ st0 fun b hb o e => by
      rcases It.hfp b hb with q | ⟨o', ho'⟩
      · rw [q] at e ⊢; exact keepI o e
      · have h1 := S₁.sub b o' ho'
        have h2 := push_keeps (o := ob) b _ h1
        rw [h2] at e; cases e
        exact keep b _ h1
    have ndisj : ∀ i ∈ cap, i ∉ [t1, t2] := fun i hi q => by
      have h1 := SF.capOk i hi
      rw [(SF.tsOk i q).1] at h1; cases h1
    have hsize : sizeLine = 16777216 := sizeLine_is
    have ht12 : ¬ t1 = t2 := not_beq hne
    generalize hCe : s₁.heap.objs.size + 1 + 1 = C at *
    generalize hDe : s₁.heap.objs.size + 1 = Da at *
    generalize hIe : s₁.heap.objs.size = Ia at *
    have hDI : Da ≠ Ia := by rw [← hDe, ← hIe]; exact na (by omega)
    have hIC : Ia ≠ C := by rw [← hCe, ← hIe]; exact na (by omega)
    have hDC : Da ≠ C := by rw [← hCe, ← hDe]; exact na (by omega)
    generalize henv : compEnvC sc (clOf env sc.names []) C env = cenv at *
    have hloc : cenv.locals = C := by rw [← henv]; rfl
    have hnew : ∀ a, a = Ia ∨ a = Da ∨ a = C → s₁.heap.get? a = none ∧ some a ≠ c.p := fun a ha => by
      rcases ha with q | q | q <;> rw [q]
      · exact ⟨nI, new_ne S₁ nI⟩
      · exact ⟨nD, new_ne S₁ nD⟩
      · exact ⟨nC, new_ne S₁ nC⟩
    have hcl : ∀ x a, (a = Ia ∨ a = Da) → cenv.cells.lookup x ≠ some a := fun x a ha q => clive x a q (hnew a (ha.imp id .inl)).1
    have turnNew : ∀ {φ' : Fz} {s' : Shared} {U : Addr → Prop} {φ'' : Fz} {s'' : Shared}, Ext c φ₁ s₁ φ' s' → ExtU c U φ' s' φ'' s'' → (∀ a, U a → a = Ia ∨ a = Da ∨ a = C) → Ext c φ₁ s₁ φ'' s'' :=
      fun x y hU => ((x.toU (U := fun a => a = Ia ∨ a = Da ∨ a = C)).trans y fun a u => .inl (hU a u)).toExt fun a u => (hnew a u).1
    have loop : codeAny (model c.prog c.w) A (.compLoop (.ListComp elt [⟨.Name (nm t1) p1, it1, [], 0⟩, ⟨.Name (nm t2) p2, it2, [], 0⟩] sc pos) 0 (.ref Ia) (.ref Da) cenv)
        (compPost (model c.prog c.w) A E use Q (.ref Da) C) { s₁ with heap := h₄, toks := s₁.toks + ([] : List (Str × Value)).length } := by
      refine nest_rule (fun x => no_set hsrc2 (env := cenv) x) (LoopInv c (Ext c φ₁ s₁) (Fm c (inGl gl cap) [t1, t2] cenv (only σ cap)) It.St φ₁ Ia Da C (1000 * ·) [] (fun j pn' outs => (flatL (rowF (only σ cap) t1 t2 (fun σ' => ev F G n σ' src2) (fun σ' => ev F G n σ' xelt)) (items.drop j)).All pn' fun q vs => K q (.list (outs ++ vs))) items.length) ?_ (items.length + 1)
        (.mk φ₁ pn₁ [] #[] 0 0 rfl (Nat.zero_le _) x₄ (fun _ _ e => e) S₄ M₄ st4 hD4 (Nat.zero_le _) trivial (fz _ nI) (fz _ nD) (fz _ nC) h₁)
      intro kk s' hI
      refine via fun GG ret => ?_
      cases hI with | mk φ' pn' outs ys nn j hkk hj x1 up1 S1 M1 st1 hD1 hsz hys1 fI1 fD1 fL1 h1 =>
      have muI : ∀ a, a = Ia ∨ a = Da ∨ a = C → φ' a = none ∧ some a ≠ c.p := fun a ha => ⟨ha.elim (fun q => q ▸ fI1) fun ha => ha.elim (fun q => q ▸ fD1) fun q => q ▸ fL1, (hnew a ha).2⟩
      by_cases hlt : j < items.length
      · refine ret (It.W.item j s' _ _ hlt st1 fun v h' tk hP hst hk => ?_)
        refine via fun GG ret => ?_
        obtain ⟨u, hu, hv⟩ := It.hP j v hP
        have hvu : Is c φ' u v := Is.mono up1 u hv
        obtain ⟨o₁, hI₁, hcls⟩ := It.cls _ _ hst
        obtain ⟨y2, S2⟩ := S1.turn (U := (· = Ia)) (h' := h') (tk := tk) (fun a q => by rw [q]; exact muI Ia (.inl rfl)) (fun a o q e => hk a o (by simpa using q) e)
        have x2 := turnNew x1 y2 fun a q => .inl q
        have M2 : Fm c (inGl gl cap) [t1, t2] cenv (only σ cap) φ' h' := M1.heap fun a o ha e => hk a o (by
          intro q
          rw [List.mem_singleton] at q
          rw [q] at ha
          rcases ha with ha | ⟨z, ha⟩
          · rw [hloc] at ha; exact hIC ha
          · exact hcl z Ia (.inl rfl) ha) e
        have hD2 : h'.get? Da = some { cls := .type "list", data := .seq ys nn } := hk Da _ (by simpa using hDI) hD1
        have hd : items.drop j = u :: items.drop (j + 1) := by
          obtain ⟨q, e⟩ := List.getElem?_eq_some_iff.mp hu
          rw [List.drop_eq_getElem_cons hlt, e]
        rw [hd] at h1
        simp only [flatL] at h1
        have h1 := Tree.all_bind _ _ h1
        rw [rowF] at h1
        have h1 := Tree.all_bind _ _ h1
        have muL : ∀ a, mu cenv [t1, t2] a → a = C := fun a ha => by
          rcases ha with q | ⟨i, hi, e1, _⟩
          · rw [q, hloc]
          · rw [kts i hi] at e1; cases e1
        have hmu : ∀ a, mu cenv [t1, t2] a → φ' a = none ∧ some a ≠ c.p := fun a ha => muI a (.inr (.inr (muL a ha)))
        refine ret (letOwned_ok hI₁ hcls (assign1_ok S2 M2 (List.mem_cons_self ..) hvu hmu fun s₃ y3 S3 M3 => ?_))
        have x3 := turnNew x2 y3 fun a ha => .inr (.inr (muL a ha))
        have hD3 := y3.keep Da _ (fun q => hDC (muL _ q)) (muI Da (.inr (.inl rfl))).2 hD2
        have hI3 := y3.keep Ia _ (fun q => hIC (muL _ q)) (muI Ia (.inl rfl)).2 hI₁
        have keepSt : ∀ {s : Shared} {φa : Fz} {s'' : Shared}, (∀ a o, φ₁ a = some o → φa a = some o) → (∀ a o, φa a = some o → s.heap.get? a = some o) → (∀ a o, φ₁ a = some o → s''.heap.get? a = some o) → (∀ o, s.heap.get? Ia = some o → s''.heap.get? Ia = some o) → ∀ i, It.St i s.heap → It.St i s''.heap := fun h1 h2 h3 h4 i hst =>
          It.W.frame i _ _ hst fun b hb o e => by
            rcases It.hfp b hb with q | ⟨o', ho'⟩
            · rw [q] at e ⊢; exact h4 o e
            · have := h2 b o' (h1 b o' ho')
              rw [this] at e; cases e
              exact h3 b _ ho'
        have st3 : It.St (j + 1) s₃.heap := keepSt (φa := φ') (s := { s' with heap := h', toks := tk }) up1 S2.sub (fun a o e => S3.sub a o (up1 a o e)) (fun o e => y3.keep Ia o (fun q => hIC (muL _ q)) (muI Ia (.inl rfl)).2 e) _ hst
        refine IH m _ it2 src2 hsrc2 A cenv _ φ' s₃ pn' _ _ _ R0 S3 M3.toRd h1 fun v2 u2 φ₄ s₄ pn₄ h4 y4 S4 i4 => ?_
        have x4 := x3.trans y4
        have M4 := M3.ext S3 y4
        have live3 : ∀ a, a = Ia ∨ a = Da ∨ a = C → s₃.heap.get? a ≠ none := fun a ha => by
          rcases ha with q | q | q
          · rw [q, hI3]; simp
          · rw [q, hD3]; simp
          · obtain ⟨mm, hm⟩ := M3.ns; rw [q, ← hloc]; exact ns_live hm
        have fz4 : ∀ a, a = Ia ∨ a = Da ∨ a = C → φ₄ a = none := fun a ha => (y4.fz a (live3 a ha)).trans (muI a ha).1
        have live4 : ∀ a, a = Ia ∨ a = Da ∨ a = C → s₄.heap.get? a ≠ none := fun a ha => y4.live a (live3 a ha)
        have hD4' := y4.keep Da _ (muI Da (.inr (.inl rfl))).2 hD3
        have hI4 := y4.keep Ia _ (muI Ia (.inl rfl)).2 hI3
        have up4 : ∀ a o, φ₁ a = some o → φ₄ a = some o := fun a o e => y4.up S3 a o (up1 a o e)
        have st4' : It.St (j + 1) s₄.heap := keepSt (φa := φ') up1 S3.sub (fun a o e => S4.sub a o (up4 a o e)) (fun o e => y4.keep Ia o (muI Ia (.inl rfl)).2 e) _ st3
        have hys4 : IsL c φ₄ outs ys.toList := IsL.mono (y4.up S3) _ hys1
        cases u2 with
        | list items2 =>
          have hlen2 := of_decide_eq_true (guard_all h4).1
          have h4 := (guard_all h4).2
          refine iter_ok R0.handled S4 i4 rfl rfl fun hz2 ob2 It2 st20 hfr2 => ?_
          have YS5 := S4.keeps (h' := s₄.heap.push ob2) (tk := s₄.toks) fun a o e => push_keeps _ _ e
          have y5 := YS5.1
          have S5 := YS5.2
          have M5 := M4.ext S4 y5
          have nI2 : s₄.heap.get? s₄.heap.objs.size = none := heap_fresh _
          have nI21 : s₁.heap.get? s₄.heap.objs.size = none := by
            cases q : s₁.heap.get? s₄.heap.objs.size with
            | none => rfl
            | some o => exact absurd nI2 (x4.live _ (by rw [q]; simp))
          have fzI2 : φ₄ s₄.heap.objs.size = none := by
            cases q : φ₄ s₄.heap.objs.size with
            | none => rfl
            | some o => rw [S4.sub _ o q] at nI2; cases nI2
          have I2ne : ∀ a, a = Ia ∨ a = Da ∨ a = C → a ≠ s₄.heap.objs.size := fun a ha q => live4 a ha (q ▸ nI2)
          have outsLen : outs.length ≤ 1000 * j := by rw [hys4.length, Array.length_toList]; exact hsz
          have jle : 1000 * j ≤ 1000000 := by omega
          have inner : codeAny (model c.prog c.w) A (.compLoop (.ListComp elt [⟨.Name (nm t1) p1, it1, [], 0⟩, ⟨.Name (nm t2) p2, it2, [], 0⟩] sc pos) 1 (.ref s₄.heap.objs.size) (.ref Da) cenv)
              (fun r s'' => match r with | .ok _ => ∃ m, m < kk ∧ LoopInv c (Ext c φ₁ s₁) (Fm c (inGl gl cap) [t1, t2] cenv (only σ cap)) It.St φ₁ Ia Da C (1000 * ·) [] (fun j pn' outs => (flatL (rowF (only σ cap) t1 t2 (fun σ' => ev F G n σ' src2) (fun σ' => ev F G n σ' xelt)) (items.drop j)).All pn' fun q vs => K q (.list (outs ++ vs))) items.length m s'' | .error e => cameBackBy (model c.prog c.w) A cenv (notedBy (model c.prog c.w) A cenv fun e s' => compPost (model c.prog c.w) A E use Q (.ref Da) C (.error e) s') e s'')
              { s₄ with heap := s₄.heap.push ob2 } := by
            refine emit_loop (Gs := inGl gl cap) (σ₀ := set (only σ cap) t1 u) (outs₀ := outs) (test := fun _ => .ret true) (el := fun σ' => ev F G n σ' xelt) (φi := φ₄) (ys₀ := ys) (nn₀ := nn) (pn := pn₄) (elt := elt) (ifs := []) (target := .Name (nm t2) p2) (ts := [t2]) (tt := false) (I := s₄.heap.objs.size) (D := Da)
              rfl rfl rfl R0 (beq_self_eq_true _) (by omega) It2 ?_ ?_ ?_ ?_ (I2ne Da (.inr (.inl rfl))) ?_ ?_ ?_ ?_ ?_ (fun _ _ e => e) S5 (M5.sub fun i hi => by simp at hi; simp [hi]) st20 (push_keeps _ _ hD4') hys4 ⟨fzI2, fz4 _ (.inr (.inl rfl)), by rw [hloc]; exact fz4 _ (.inr (.inr rfl))⟩ h4
            · intro i w σ' v hbt hg
              refine bindT_back hbt (fun hi => ?_) hg
              rw [List.mem_singleton.mp hi, get_set, if_neg ht12] at hg
              exact ndisj _ (get_only σ cap _ w hg).1 (.tail _ (.head _))
            · intro σ' φ s pn K Q E S M h P
              exact wpAny_pure (P.here S h)
            · intro σ' φ s pn K Q E S M h P
              exact IH m _ elt xelt helt A _ σ' φ s pn K Q E R0 S M.toRd h P
            · intro a ha
              rcases ha with q | q | q
              · rw [q]; exact new_ne S₁ nI21
              · exact (hnew a (.inr (.inl q))).2
              · rw [hloc] at q; exact (hnew a (.inr (.inr q))).2
            · intro x
              exact ⟨fun q => clive x _ q nI21, hcl x Da (.inr rfl)⟩
            · rw [hloc]; exact Ne.symm (I2ne C (.inr (.inr rfl)))
            · rw [hloc]; exact hDC
            · intro i hi
              exact kts i (by simp at hi; simp [hi])
            · intro s'' φ'' pn'' outs2 ys2 nn2 h6 x6 S6 M6 hD6 hsz6 hys6 hφD hφC
              refine ⟨items.length + 1 - (j + 1), hkk ▸ by omega, ?_⟩
              have h6 := Tree.all_bind _ _ h6
              have notU : ∀ a, a ≠ s₄.heap.objs.size → a ≠ Da → a ≠ C → ¬ (a = s₄.heap.objs.size ∨ a = Da ∨ a = cenv.locals) := fun a q1 q2 q3 q => by
                rw [hloc] at q
                exact q.elim q1 fun q => q.elim q2 q3
              have up6 : ∀ a o, φ₄ a = some o → φ'' a = some o := x6.isIn S5 fun a ha => by
                rw [hloc] at ha
                rcases ha with q | q | q <;> rw [q]
                · exact fzI2
                · exact fz4 _ (.inr (.inl rfl))
                · exact fz4 _ (.inr (.inr rfl))
              have liveI : ({ s₄ with heap := s₄.heap.push ob2 } : Shared).heap.get? Ia ≠ none := by
                rw [show ({ s₄ with heap := s₄.heap.push ob2 } : Shared).heap.get? Ia = some o₁ from push_keeps _ _ hI4]; simp
              have nUI : ¬ (Ia = s₄.heap.objs.size ∨ Ia = Da ∨ Ia = cenv.locals) := notU Ia (I2ne Ia (.inl rfl)) (Ne.symm hDI) hIC
              have x7 : Ext c φ₁ s₁ φ'' s'' := (((x4.trans y5).toU (U := fun a => a = s₄.heap.objs.size ∨ a = Da ∨ a = C)).trans x6 fun a ha => by rw [hloc] at ha; exact .inl ha).toExt fun a ha => by
                rcases ha with q | q | q <;> rw [q]
                · exact nI21
                · exact nD
                · exact nC
              refine .mk φ'' pn'' (outs ++ outs2) ys2 nn2 (j + 1) rfl hlt x7 (fun a o e => up6 a o (up4 a o e)) S6 ?_ ?_ hD6 (Nat.le_trans hsz6 (by omega)) hys6 ?_ hφD (hloc ▸ hφC) ?_
              · have hsub : ∀ i w, get (only σ cap) i = some w → get (set (only σ cap) t1 u) i = some w := fun i w e => by
                  rw [get_set, if_neg (fun q => ndisj i (get_only σ cap i w e).1 (by simp [q]))]; exact e
                refine ⟨(M6.less hsub).toRd, M6.ns, fun i hi => ?_⟩
                exact ⟨(SF.tsOk i hi).2, .inl (kts i hi)⟩
              · exact keepSt (φa := φ₄) up4 S4.sub (fun a o e => S6.sub a o (up6 a o (up4 a o e))) (fun o e => x6.keep Ia o nUI (muI Ia (.inl rfl)).2 (push_keeps _ _ e)) _ st4'
              · rw [x6.fz Ia nUI liveI]; exact fz4 _ (.inl rfl)
              · exact Tree.all_mono _ _ h6 fun q vs h => by rw [List.append_assoc]; exact h
          exact start1 inner (It2.W.self 0 _ _ _ st20 inner)
        | _ => exact h4.elim
      · have hje : j = items.length := by omega
        subst hje
        refine ret (It.W.done s' _ _ st1 fun h' tk hk => ?_)
        refine via fun GG ret => ?_
        rw [List.drop_length] at h1
        replace h1 : K pn' (.list (outs ++ [])) := h1
        rw [List.append_nil] at h1
        obtain ⟨y2, S2⟩ := S1.turn (U := (· = Ia)) (h' := h') (tk := tk) (fun a q => by rw [q]; exact muI Ia (.inl rfl)) (fun a o q e => hk a o (by simpa using q) e)
        have x2 := turnNew x1 y2 fun a q => .inl q
        obtain ⟨mm, hmm⟩ := M1.ns
        have nn1 : ∀ a, s₁.heap.get? a = none → s.heap.get? a = none := fun a e => by
          cases q : s.heap.get? a with
          | none => rfl
          | some o => exact absurd e (x₁.live a (by rw [q]; simp))
        refine ret (hfin _ _ _ ⟨⟨φ', pn', outs, ys, nn, mm, h1, x₁.trans x2, S2, hk Da _ (by simpa using hDI) hD1, by omega, hys1, fD1, fL1, ?_⟩, ⟨nn1 _ nD, new_ne S₁ nD⟩, ⟨nn1 _ nC, new_ne S₁ nC⟩, hDC⟩)
        rw [hloc] at hmm
        exact hmm.at' fun o e => hk _ o (by simpa using Ne.symm hIC) e
    subst henv
    exact ret (start0 loop (It.W.self 0 _ _ _ st4 loop))
  | _ => exact h₁.elim
end
end Mine

set_option autoImplicit false
namespace Mine
open PySem PySem.W PySem.Calls PyProof.Rows PyProof

section
variable {c : Cx} {A : Around} {s : Shared} {φ : Fz} {pn : Pn} {k m n : Nat} {E : Value → Shared → Prop} {env : PySem.Env} {σ : Env} {Gs Ds : List Nat} {F : Nat → List V → Tree V} {G : Nat → Int} {R : Result → Shared → Prop}

noncomputable def fzAt (φ : Fz) (D : Addr) (o : Obj) : Fz := fun a => if a = D then some o else φ a
theorem St.freeze (S : St c φ s pn) {D : Addr} {o : Obj} (hD : s.heap.get? D = some o) (hp : some D ≠ c.p) (hn : φ D = none ∨ φ D = some o) : St c (fzAt φ D o) s pn where
  sub := fun a ob e => by
    unfold fzAt at e
    split at e
    · rename_i q; rw [q]; cases e; exact hD
    · exact S.sub a ob e
  bas := fun a ob e => by
    unfold fzAt
    have := S.bas a ob e
    split
    · rename_i q
      rw [q] at this
      rcases hn with h | h
      · rw [h] at this; cases this
      · rw [h] at this; exact this
    · exact this
  pen := S.pen.mono (fun a ob e => by
    unfold fzAt
    split
    · rename_i q
      rw [q] at e
      rcases hn with h | h
      · rw [h] at e; cases e
      · rw [h] at e; exact e
    · exact e) fun a e => ⟨by
      unfold fzAt
      rw [if_neg (fun q => hp (by rw [← q, e]))]
      exact (S.fresh a e).2, fun _ h => h⟩
  fresh := fun a e => ⟨(S.fresh a e).1, by
    unfold fzAt
    rw [if_neg (fun q => hp (by rw [← q, e]))]
    exact (S.fresh a e).2⟩
theorem fzAt_self {D : Addr} {o : Obj} : fzAt φ D o D = some o := by simp [fzAt]
theorem fzAt_up {D : Addr} {o : Obj} (hn : φ D = none) : ∀ a ob, φ a = some ob → fzAt φ D o a = some ob := fun a ob e => by
  unfold fzAt
  rw [if_neg (fun q => by rw [q, hn] at e; cases e)]; exact e

theorem comp_frozen {K : Pn → V → Prop} {D C : Addr} {s' : Shared} (H : CompEnd c φ s K D C s') : ∃ mm, s'.heap.Ns C mm ∧ ∀ h', Heap.SameBut C s'.heap h' →
    ∃ φ' pn' u, K pn' u ∧ Ext c φ s φ' { s' with heap := h' } ∧ St c φ' { s' with heap := h' } pn' ∧ Is c φ' u (.ref D) := by
  obtain ⟨⟨φ', pn', outs, ys, nn, mm, hK, x, S, hD, hz, hys, hφD, hφC, hns⟩, ⟨nD, pD⟩, ⟨nC, pC⟩, hne⟩ := H
  refine ⟨mm, hns, fun h' hs => ?_⟩
  obtain ⟨y, S'⟩ := S.turn (U := (· = C)) (h' := h') (tk := s'.toks) (fun a q => by rw [q]; exact ⟨hφC, pC⟩) fun a o q e => (hs.2 a q).trans e
  have hD' : h'.get? D = some { cls := .type "list", data := .seq ys nn } := (hs.2 D hne).trans hD
  have S'' := S'.freeze (D := D) hD' pD (.inl hφD)
  have x' : Ext c φ s φ' { s' with heap := h' } := ((x.toU (U := (· = C))).trans y fun a q => .inl q).toExt fun a q => by rw [q]; exact nC
  refine ⟨fzAt φ' D _, pn', .list outs, hK, ⟨x'.same, x'.keep, x'.live, fun a e => ?_⟩, S'', ?_⟩
  · unfold fzAt
    rw [if_neg (fun q => by rw [q] at e; exact e nD)]
    exact x'.fz a e
  · simp only [Is]
    exact ⟨D, _, nn, ys, rfl, fzAt_self, rfl, rfl, hz, IsL.mono (fzAt_up hφD) _ hys⟩

theorem comp_eval (IH : SE c k F G n) (IT : STt c k F G n) {elt t it : PySem.Expr} {ifs : List PySem.Expr} {sc : Scope} {pos : Pos} {as : Int} {xelt src : X} {tt : Bool} {ts cap gl : List Nat} {cond : Option X} {K : Pn → V → Prop} {Q : Value → Shared → Prop}
    (hc : chkE k (m + 1) Gs (.ListComp elt [⟨t, it, ifs, as⟩] sc pos) (.comp xelt tt ts src cond cap gl) = true) (R0 : Room A k) (S : St c φ s pn) (D : Rd c Gs env σ φ s.heap)
    (h : (ev F G (n + 1) σ (.comp xelt tt ts src cond cap gl)).All pn K) (P : Post c φ s K Q) : wpAny (model c.prog c.w) A (eval (.ListComp elt [⟨t, it, ifs, as⟩] sc pos) env) Q E s := by
  have has : as = 0 := of_decide_eq_true (and7k (show compChk (chkE k m) Gs elt t it ifs as sc xelt tt ts src cond cap gl = true from hc) fun q _ _ _ _ _ _ => q)
  subst has
  rw [eval_ListComp]
  refine comp_core (use := none) IH IT hc R0 S D h fun Da C s' H => ?_
  obtain ⟨mm, h1, h2⟩ := comp_frozen H
  exact ⟨mm, h1, fun h' hs => let ⟨φ', pn', u, a, b, d, e⟩ := h2 h' hs; P _ u φ' _ pn' a b d e⟩
theorem comp2_eval (IH : SE c k F G n) {elt it1 it2 : PySem.Expr} {n1 n2 : Str} {p1 p2 : Pos} {sc : Scope} {pos : Pos} {as1 as2 : Int} {xelt src1 src2 : X} {t1 t2 : Nat} {cap gl : List Nat} {K : Pn → V → Prop} {Q : Value → Shared → Prop}
    (hc : chkE k (m + 1) Gs (.ListComp elt [⟨.Name n1 p1, it1, [], as1⟩, ⟨.Name n2 p2, it2, [], as2⟩] sc pos) (.comp2 xelt t1 src1 t2 src2 cap gl) = true) (R0 : Room A k) (S : St c φ s pn) (D : Rd c Gs env σ φ s.heap)
    (h : (ev F G (n + 1) σ (.comp2 xelt t1 src1 t2 src2 cap gl)).All pn K) (P : Post c φ s K Q) : wpAny (model c.prog c.w) A (eval (.ListComp elt [⟨.Name n1 p1, it1, [], as1⟩, ⟨.Name n2 p2, it2, [], as2⟩] sc pos) env) Q E s := by
  have has : as1 = 0 := by
    have hc : compChk2 (chkE k m) Gs elt n1 it1 as1 n2 it2 as2 sc xelt t1 src1 t2 src2 cap gl = true := hc
    simp only [compChk2, Bool.and_eq_true, decide_eq_true_eq] at hc
    exact hc.1.1.1.1.1.1.1.1.1
  subst has
  rw [eval_ListComp]
  refine comp2_core (use := none) IH hc R0 S D h fun Da C s' H => ?_
  obtain ⟨mm, h1, h2⟩ := comp_frozen H
  exact ⟨mm, h1, fun h' hs => let ⟨φ', pn', u, a, b, d, e⟩ := h2 h' hs; P _ u φ' _ pn' a b d e⟩

theorem evL_len (f : X → Tree V) : ∀ (xs : List X) (pn : Pn) (K : Pn → List V → Prop), (evL f xs).All pn K → (evL f xs).All pn fun q vs => K q vs ∧ vs.length = xs.length
  | [], _, _, h => by simp only [evL, Tree.All, Tree.upN, Tree.knP] at h ⊢; exact ⟨h, rfl⟩
  | x :: xs, pn, K, h => by
    simp only [evL] at h ⊢
    refine Tree.all_bind_of _ _ (Tree.all_mono _ _ (Tree.all_bind _ _ h) fun q v hv => Tree.all_bind_of _ _ ?_)
    refine Tree.all_mono _ _ (evL_len f xs q _ (Tree.all_bind _ _ hv)) fun q' vs hvs => ?_
    simp only [Tree.All, Tree.upN, Tree.knP] at hvs ⊢
    exact ⟨hvs.1, by simp [hvs.2]⟩
theorem chkL_len {f : PySem.Expr → X → Bool} : ∀ {xs : List X} {es : List PySem.Expr}, chkL f es xs = true → es.length = xs.length
  | [], es, h => inNil (M := fun es => es.length = 0) (fun _ => rfl) h
  | _ :: xs, es, h => inCons (M := fun es => es.length = xs.length + 1) (fun _ _ h => and2k h fun _ h => congrArg (· + 1) (chkL_len h)) h
theorem lit_len {es : List PySem.Expr} {xs : List X} {us : List V} {vs : List Value} {f : PySem.Expr → X → Bool} (hc : chkL f es xs = true) (hz : decide (es.length < 1000) = true) (i : IsL c φ us vs) (hl : us.length = xs.length) : vs.toArray.size ≤ sizeLine := by
  rw [List.size_toArray, ← i.length, hl, ← chkL_len hc, sizeLine_is]
  exact Nat.le_trans (Nat.le_of_lt (of_decide_eq_true hz)) (by decide)
theorem se_step (FO : FunsOk c k F G) (IH : SE c k F G n) (IT : STt c k F G n) : SE c k F G (n + 1) := by
  intro m Gs e x hc A env σ φ s pn K Q E R S D h P
  cases m with
  | zero => exact (chkE_zero hc).elim
  | succ m =>
    have hce := ce_of hc
    induction hce with
    | none => exact wpAny_Constant_none (P.here S (K := K) h is_none)
    | bool b d p q =>
      cases beq_iff_eq.mp (show (b == d) = true from hc)
      exact wpAny_Constant_bool (P.here S (K := K) h is_bool)
    | int i j p q =>
      cases of_decide_eq_true (show decide (i = j) = true from hc)
      exact wpAny_Constant_int (P.tok S (K := K) _ h is_int)
    | var i st p =>
      rw [eq_of_strEq (show strEq st (nm i) = true from hc)]
      simp only [ev] at h
      obtain ⟨u, e, hk⟩ := optT_all h
      exact var_ok D e fun v hv => P.here S hk hv
    | gint g st p =>
      refine and3k hc fun h1 h2 h3 => ?_
      rw [eq_of_strEq h1]
      obtain ⟨t, ht⟩ := FO.const g h3
      have hlt : g < 1000 := by
        simp only [constId, Bool.or_eq_true, beq_iff_eq] at h3
        omega
      exact glob_ok S D (by simpa using h2) hlt ht (P.here S (K := K) h is_int)
    | bin op l r l' op' r' p =>
      refine and3k hc fun h1 h2 h3 => ?_
      cases of_decide_eq_true h1
      simp only [ev] at h
      refine wpAny_BinOp (IH m Gs l' l h2 A env σ φ s pn _ _ E R S D (Tree.all_bind _ _ h) fun v u φ₁ s₁ pn₁ h₁ x₁ S₁ i₁ => ?_)
      refine IH m Gs r' r h3 A env σ φ₁ s₁ pn₁ _ _ E R S₁ (D.ext S x₁) (Tree.all_bind _ _ h₁) fun v' u' φ₂ s₂ pn₂ h₂ x₂ S₂ i₂ => ?_
      exact op_ok R S₂ (x₂.is S₁ i₁) i₂ h₂ ((P.after x₁).after x₂)
    | neg x x' p =>
      replace hc : chkE k m Gs x' x = true := hc
      simp only [ev] at h
      refine wpAny_UnaryOp (IH m Gs x' x hc A env σ φ s pn _ _ E R S D (Tree.all_bind _ _ h) fun v u φ₁ s₁ pn₁ h₁ x₁ S₁ i₁ => ?_)
      cases u with
      | int i =>
        obtain ⟨t, rfl⟩ := int_is i₁
        exact PyProof.Rows.neg_int ((P.after x₁).tok S₁ _ h₁ is_int)
      | _ => exact h₁.elim
    | notE => exact h.elim
    | cmp op l r l' op' r' p =>
      refine and4k hc fun h1 _ h3 h4 => ?_
      cases of_decide_eq_true h1
      simp only [ev] at h
      exact cmpE_ok IH h3 h4 R S D h P
    | cmp2 => exact h.elim
    | isNone x x' a b p =>
      replace hc : chkE k m Gs x' x = true := hc
      simp only [ev] at h
      refine wpAny_Compare1 (hm := rfl) (IH m Gs x' x hc A env σ φ s pn _ _ E R S D (Tree.all_bind _ _ h) fun v u φ₁ s₁ pn₁ h₁ x₁ S₁ i₁ => ?_)
      exact wpAny_Constant_none (isNone_val i₁ ((P.after x₁).here S₁ (show K _ _ from h₁) is_bool))
    | andE xs xs' p =>
      replace hc : chkL (chkE k m Gs) xs' xs = true := hc
      rw [arm_eval_BoolOp]
      exact chainV_ok IH false .And rfl _ xs' xs hc φ s pn K Q R S D h P
    | orE xs xs' p =>
      replace hc : chkL (chkE k m Gs) xs' xs = true := hc
      rw [arm_eval_BoolOp]
      exact chainV_ok IH true .Or rfl _ xs' xs hc φ s pn K Q R S D h P
    | ite cc t e c' t' e' p =>
      refine and3k hc fun h1 h2 h3 => ?_
      simp only [ev] at h
      refine wpAny_IfExp (IT m Gs c' cc h1 A env σ φ s pn _ _ E R S D (Tree.all_bind _ _ h) fun b φ₁ s₁ pn₁ h₁ x₁ S₁ => ?_)
      cases b with
      | true => rw [if_pos rfl]; exact IH m Gs t' t h2 A env σ φ₁ s₁ pn₁ _ _ E R S₁ (D.ext S x₁) h₁ (P.after x₁)
      | false => rw [if_neg (by simp)]; exact IH m Gs e' e h3 A env σ φ₁ s₁ pn₁ _ _ E R S₁ (D.ext S x₁) h₁ (P.after x₁)
    | call f args st q args' p =>
      refine and6k hc fun h1 h2 h3 h4 h5 _ => ?_
      rw [eq_of_strEq h1]
      simp only [ev] at h
      exact call_ok FO IH (by simpa using h2) (Nat.blt_eq.mp h3) h4 h5 R S D h P
    | static f args st q a ap args' p =>
      refine and8k hc fun h1 h2 h3 h4 h5 h6 h7 h8 => ?_
      rw [eq_of_strEq h1, eq_of_strEq h2]
      simp only [ev] at h
      exact static_ok FO IH (by simpa using h3) (Nat.blt_eq.mp h4) h5 h6 (of_decide_eq_true h7) (of_decide_eq_true h8) R S D h P
    | meth f o args o' a ap args' p =>
      refine and7k hc fun h1 h2 h3 h4 h5 h6 h7 => ?_
      rw [eq_of_strEq h1]
      simp only [ev] at h
      exact meth_ok FO IH (Nat.blt_eq.mp h2) h3 h4 h5 (of_decide_eq_true h6) (of_decide_eq_true h7) R S D h P
    | value o o' a p =>
      refine and2k hc fun h1 h2 => ?_
      rw [eq_of_strEq h1]
      simp only [ev] at h
      exact value_ok FO IH h2 R S D h P
    | mask o o' a p =>
      refine and2k hc fun h1 h2 => ?_
      rw [eq_of_strEq h1]
      simp only [ev] at h
      exact mask_ok FO IH h2 R S D h P
    | idx o i o' i' p =>
      refine and2k hc fun h1 h2 => ?_
      simp only [ev] at h
      exact idx_ok IH h1 h2 R S D h P
    | penAt o i o' j a b p =>
      refine and3k hc fun h1 h2 h3 => ?_
      cases of_decide_eq_true h1
      simp only [ev] at h
      exact penAt_ok IH (Nat.blt_eq.mp h2) h3 R S D h P
    | upto o nn o' j a b q p =>
      refine and3k hc fun h1 h2 h3 => ?_
      cases of_decide_eq_true h1
      simp only [ev] at h
      exact upto_ok IH (of_decide_eq_true h2) h3 R S D h P
    | list xs xs' p =>
      refine and2k hc fun h1 h2 => ?_
      simp only [ev] at h
      refine List_ (evL_ok IH xs xs' h1 φ s pn _ _ _ R S D (evL_len _ _ _ _ (Tree.all_bind _ _ h)) fun vs us φ₁ s₁ pn₁ h₁ x₁ S₁ i₁ => ?_)
      have hz := lit_len h1 h2 i₁ h₁.2
      exact wpAny_newObj_type ((P.after x₁).newList S₁ push_keeps (Heap.get?_push_size _ rfl) rfl rfl (heap_fresh _) hz h₁.1 i₁) hz
    | tup xs xs' a p =>
      refine and2k hc fun h1 h2 => ?_
      simp only [ev] at h
      refine Tuple_ (evL_ok IH xs xs' h1 φ s pn _ _ _ R S D (evL_len _ _ _ _ (Tree.all_bind _ _ h)) fun vs us φ₁ s₁ pn₁ h₁ x₁ S₁ i₁ => ?_)
      have hz := lit_len h1 h2 i₁ h₁.2
      exact wpAny_newObj_type ((P.after x₁).newTup S₁ push_keeps (Heap.get?_push_size _ rfl) rfl rfl (heap_fresh _) hz h₁.1 i₁) hz
    | comp => exact comp_eval (m := m) IH IT hc R S D h P
    | comp2 => exact comp2_eval (m := m) IH hc R S D h P

noncomputable def plainX : X → Bool
  | .notE _ | .andE _ | .orE _ | .ite .. | .cmp .. | .cmp2 .. | .isNone _ => false
  | _ => true
theorem tv_plain {x : X} (h : plainX x = true) : tv F G (n + 1) σ x = (ev F G n σ x).bind truthyV := by
  cases x <;> first | rfl | cases h
noncomputable def TruthEnds (env : PySem.Env) (e : PySem.Expr) : Prop := ∀ whole, isTrue e env whole = (do let v ← whole; standAt e.pos; holding [v] (truthy v))
theorem truth_ends {e : PySem.Expr} {x : X} (hc : CE e x) (h : plainX x = true) : TruthEnds env e := by
  induction hc <;> first | exact no h | exact fun w => Eq.refl (isTrue _ env w)
theorem isTrue_else {e : PySem.Expr} {x : X} {whole : Sem Value} (hc : chkE k m Gs e x = true) (h : plainX x = true) :
    isTrue e env whole = (do let v ← whole; standAt e.pos; holding [v] (truthy v)) := truth_ends (ce_of hc) h whole
theorem st_step (IH : SE c k F G n) (IT : STt c k F G n) : STt c k F G (n + 1) := by
  intro m Gs e x hc A env σ φ s pn K Q E R S D h P
  by_cases hx : plainX x = true
  · rw [isTrue_else hc hx]
    rw [tv_plain hx] at h
    refine wpAny_bind (IH m Gs e x hc A env σ φ s pn _ _ E R S D (Tree.all_bind _ _ h) fun v u φ₁ s₁ pn₁ h₁ x₁ S₁ i₁ => ?_)
    exact wpAny_bind (wpAny_standAt (wpAny_holding (truthy_ok S₁ i₁ h₁ (P.after x₁))))
  · cases m with
    | zero => exact (chkE_zero hc).elim
    | succ m =>
      have hce := ce_of hc
      induction hce with
      | notE x x' p =>
        replace hc : chkE k m Gs x' x = true := hc
        simp only [tv] at h
        rw [arm_isTrue_UnaryOp]
        refine wpAny_bind (IT m Gs x' x hc A env σ φ s pn _ _ E R S D (Tree.all_bind _ _ h) fun b φ₁ s₁ pn₁ h₁ x₁ S₁ => ?_)
        exact wpAny_pure (P _ _ _ _ h₁ x₁ S₁)
      | cmp op l r l' op' r' p =>
        refine and4k hc fun h1 _ h3 h4 => ?_
        cases of_decide_eq_true h1
        simp only [tv] at h
        exact cmpT_ok IH h3 h4 R S D h P
      | cmp2 op l t op2 r l' o1 o2 t' r' p =>
        refine and7k hc fun q1 q2 _ _ h3 h4 h5 => ?_
        cases of_decide_eq_true q1
        cases of_decide_eq_true q2
        simp only [tv] at h
        rw [arm_isTrue_Compare]
        refine wpAny_bind (IH m Gs l' l h3 A env σ φ s pn _ _ E R S D (Tree.all_bind _ _ h) fun v u φ₁ s₁ pn₁ h₁ x₁ S₁ i₁ => ?_)
        have hm : markedEach [op, op2] [t', r'] (evalEach [t', r'] env) = [eval t' env, eval r' env] := by
          show [eval t' env, markedBehindIn op2 r' (eval r' env)] = _
          rw [markedBehindIn_of_false (not_set h5)]
        rw [hm]
        show wpAny _ _ (holding [v] (eval t' env) >>= _) _ _ _
        refine wpAny_bind (wpAny_holding (IH m Gs t' t h4 A env σ φ₁ s₁ pn₁ _ _ E R S₁ (D.ext S x₁) (Tree.all_bind _ _ h₁) fun v2 u2 φ₂ s₂ pn₂ h₂ x₂ S₂ i₂ => ?_))
        refine wpAny_bind (wpAny_standAt (wpAny_bind (wpAny_holding (cmp_ok R S₂ (x₂.is S₁ i₁) i₂ (Tree.all_bind _ _ h₂) fun b hb => ?_))))
        refine wpAny_bind (wpAny_release (wpAny_bind (wpAny_holding (wpAny_truthy_bool ?_))))
        cases b with
        | false => exact wpAny_pure (P _ _ _ _ hb (x₁.trans x₂) S₂)
        | true =>
          dsimp only at hb
          show wpAny _ _ (holding [v2] (eval r' env) >>= _) _ _ _
          refine wpAny_bind (wpAny_holding (IH m Gs r' r h5 A env σ φ₂ s₂ pn₂ _ _ E R S₂ ((D.ext S x₁).ext S₁ x₂) (Tree.all_bind _ _ hb) fun v3 u3 φ₃ s₃ pn₃ h₃ x₃ S₃ i₃ => ?_))
          refine wpAny_bind (wpAny_standAt (wpAny_bind (wpAny_operating (cmp_ok R S₃ (x₃.is S₂ i₂) i₃ h₃ fun b hb => ?_))))
          exact wpAny_holding (wpAny_truthy_bool (P _ _ _ _ hb ((x₁.trans x₂).trans x₃) S₃))
      | isNone x x' a b p =>
        replace hc : chkE k m Gs x' x = true := hc
        simp only [tv] at h
        refine wpAny_isTrue_Compare1 (hm := rfl) (IH m Gs x' x hc A env σ φ s pn _ _ E R S D (Tree.all_bind _ _ h) fun v u φ₁ s₁ pn₁ h₁ x₁ S₁ i₁ => ?_)
        exact wpAny_Constant_none (isNone_val i₁ (wpAny_truthy_bool (P _ _ _ _ h₁ x₁ S₁)))
      | andE xs xs' p =>
        replace hc : chkL (chkE k m Gs) xs' xs = true := hc
        rw [arm_isTrue_BoolOp]
        exact chainT_ok IT false .And rfl xs' xs hc φ s pn K Q R S D h P
      | orE xs xs' p =>
        replace hc : chkL (chkE k m Gs) xs' xs = true := hc
        rw [arm_isTrue_BoolOp]
        exact chainT_ok IT true .Or rfl xs' xs hc φ s pn K Q R S D h P
      | ite => exact h.elim
      | _ => exact absurd rfl hx

theorem sound (FO : FunsOk c k F G) : ∀ n, SE c k F G n ∧ STt c k F G n
  | 0 => ⟨fun m Gs e x _ A env σ φ s pn K Q E _ _ _ h => by simp only [ev, Tree.All, Tree.upN, Tree.knP] at h, fun m Gs e x _ A env σ φ s pn K Q E _ _ _ h => by simp only [tv, Tree.All, Tree.upN, Tree.knP] at h⟩
  | n + 1 => ⟨se_step FO (sound FO n).1 (sound FO n).2, st_step (sound FO n).1 (sound FO n).2⟩
end
end Mine

set_option autoImplicit false
namespace Mine
open PySem PySem.W PySem.Calls PyProof.Rows PyProof

structure BHeap where
  get? : Addr → Option Obj
/-- what a run of statements must keep -/
structure Base where
  sh : Shared
  heap : BHeap
/-- from what must be kept, to a state -/
structure ExtB (c : Cx) (φ : Fz) (s : Base) (φ' : Fz) (s' : Shared) : Prop where
  same : ∃ h' tk, s' = { s.sh with heap := h', toks := tk }
  keep : ∀ a o, some a ≠ c.p → s.heap.get? a = some o → s'.heap.get? a = some o
  live : ∀ a, s.heap.get? a ≠ none → s'.heap.get? a ≠ none
  fz : ∀ a, s.heap.get? a ≠ none → φ' a = φ a
theorem ExtB.trans {c : Cx} {φ φ' φ'' : Fz} {s : Base} {s' s'' : Shared} (x : ExtB c φ s φ' s') (y : Ext c φ' s' φ'' s'') : ExtB c φ s φ'' s'' :=
  ⟨by obtain ⟨h, t, rfl⟩ := x.same; obtain ⟨h', t', rfl⟩ := y.same; exact ⟨h', t', rfl⟩, fun a o n e => y.keep a o n (x.keep a o n e), fun a e => y.live a (x.live a e), fun a e => (y.fz a (x.live a e)).trans (x.fz a e)⟩
theorem ExtB.turn {c : Cx} {U : Addr → Prop} {φ φ' φ'' : Fz} {s : Base} {s' s'' : Shared} (x : ExtB c φ s φ' s') (y : ExtU c U φ' s' φ'' s'') (hU : ∀ a, U a → s.heap.get? a = none) : ExtB c φ s φ'' s'' :=
  ⟨by obtain ⟨h, t, rfl⟩ := x.same; obtain ⟨h', t', rfl⟩ := y.same; exact ⟨h', t', rfl⟩, fun a o n e => y.keep a o (fun u => by rw [hU a u] at e; cases e) n (x.keep a o n e), fun a e => y.live a (fun u => e (hU a u)) (x.live a e), fun a e => (y.fz a (fun u => e (hU a u)) (x.live a e)).trans (x.fz a e)⟩

/-- where the frame's own list stands -/
inductive OwnAt (c : Cx) (env : PySem.Env) (φ : Fz) (h : Heap) (s0 : Base) (x : Nat) (vs : List V) : Prop
  | mk (a : Addr) (ws : Array Value) (n : Nat) (q1 : VarAt c env h (nm x) (.ref a)) (q2 : h.get? a = some { cls := .type "list", data := .seq ws n }) (q3 : ws.size ≤ sizeLine) (q4 : IsL c φ vs ws.toList) (q5 : φ a = none) (q6 : some a ≠ c.p) (q7 : a ≠ env.locals) (q8 : ∀ y, env.cells.lookup y ≠ some a) (q9 : s0.heap.get? a = none) : OwnAt c env φ h s0 x vs

structure At (c : Cx) (φ0 : Fz) (s0 : Base) (Gs Ds Os : List Nat) (env : PySem.Env) (f : Fs) (φ : Fz) (s : Shared) (pn : Pn) : Prop where
  st : St c φ s pn
  fm : Fm c Gs Ds env f.σ φ s.heap
  ext : ExtB c φ0 s0 φ s
  nu : ∀ a, mu env Ds a → φ a = none ∧ some a ≠ c.p ∧ s0.heap.get? a = none
  ce : ∀ y a, env.cells.lookup y = some a → s.heap.get? a ≠ none
  os : ∀ i ∈ Os, i < 56
  own : ∀ x vs, f.own = some (x, vs) → x ∈ Os ∧ get f.σ x = none ∧ OwnAt c env φ s.heap s0 x vs

section
variable {c : Cx} {A : Around} {s s' : Shared} {s0 : Base} {φ φ0 φ' : Fz} {pn pn' : Pn} {k m n : Nat} {E : Value → Shared → Prop} {env : PySem.Env} {σ : Env} {Gs Ds Os : List Nat} {f : Fs}

theorem Fm.live_mu (M : Fm c Gs Ds env σ φ s.heap) {a : Addr} (h : mu env Ds a) : s.heap.get? a ≠ none := by
  rcases h with rfl | ⟨i, hi, e1, e2⟩
  · obtain ⟨m, hm⟩ := M.ns; exact ns_live hm
  · rcases (M.sto i hi).2 with q | ⟨_, b, v, q1, q2, _⟩
    · rw [e1] at q; cases q
    · rw [e2] at q1; cases q1; exact cell_live q2

theorem At.step (T : At c φ0 s0 Gs Ds Os env f φ s pn) (x : Ext c φ s φ' s') (S' : St c φ' s' pn') : At c φ0 s0 Gs Ds Os env f φ' s' pn' where
  st := S'
  fm := T.fm.ext T.st x
  ext := T.ext.trans x
  nu := fun a u => ⟨(x.fz a (T.fm.live_mu u)).trans (T.nu a u).1, (T.nu a u).2⟩
  ce := fun y a e => x.live a (T.ce y a e)
  os := T.os
  own := fun y vs e => by
    obtain ⟨h1, h2, a, ws, n, q1, q2, q3, q4, q5, q6, q7, q8, q9⟩ := T.own y vs e
    exact ⟨h1, h2, a, ws, n, q1.keeps T.fm.loc x.keep, x.keep a _ q6 q2, q3, x.isL T.st q4, (x.fz a (by rw [q2]; simp)).trans q5, q6, q7, q8, q9⟩

theorem ns_uniq {h : Heap} {a : Addr} {m m' : Str → Option Value} (p : h.Ns a m) (q : h.Ns a m') : m = m' := by
  obtain ⟨o, es, ep, ho, hd, _, hf⟩ := p
  obtain ⟨o', es', ep', ho', hd', _, hf'⟩ := q
  cases Option.some.inj (ho.symm.trans ho')
  cases hd.symm.trans hd'
  exact funext fun x => (hf x).symm.trans (hf' x)
theorem VarAt.uniq {h : Heap} {x : Str} {v v' : Value} (p : VarAt c env h x v) (q : VarAt c env h x v') : v = v' := by
  rcases p with ⟨e, m, hm, hv⟩ | ⟨e, a, e1, _, o, ho, hd⟩
  · rcases q with ⟨_, m', hm', hv'⟩ | ⟨e', _⟩
    · exact Option.some.inj (hv.symm.trans (ns_uniq hm hm' ▸ hv'))
    · rcases e' with e' | e' <;> exact nomatch e.symm.trans e'
  · rcases q with ⟨e', _⟩ | ⟨_, a', e1', _, o', ho', hd'⟩
    · rcases e with e | e <;> exact nomatch e.symm.trans e'
    · cases Option.some.inj (e1.symm.trans e1')
      cases Option.some.inj (ho.symm.trans ho')
      cases hd.symm.trans hd'
      rfl
theorem Fm.like {σ' : Env} {h : Heap} (M : Fm c Gs Ds env σ φ h) (e : ∀ i, get σ' i = get σ i) : Fm c Gs Ds env σ' φ h where
  toRd := ⟨M.kind, M.glb, M.blt, M.gs, M.cl, M.loc, M.apart, fun j w hj => M.dom j w (by rw [← e]; exact hj), fun j w hj => M.vars j w (by rw [← e]; exact hj)⟩
  ns := M.ns
  sto := M.sto
theorem Fm.up {h : Heap} (M : Fm c Gs Ds env σ φ h) (e : ∀ a o, φ a = some o → φ' a = some o) : Fm c Gs Ds env σ φ' h where
  toRd := ⟨M.kind, M.glb, M.blt, M.gs, M.cl, M.loc, M.apart, M.dom, fun j w hj => let ⟨v, a, b⟩ := M.vars j w hj; ⟨v, Is.mono e _ a, b⟩⟩
  ns := M.ns
  sto := M.sto
theorem At.like {f' : Fs} (T : At c φ0 s0 Gs Ds Os env f φ s pn) (e : ∀ i, get f'.σ i = get f.σ i) (eo : f'.own = f.own) : At c φ0 s0 Gs Ds Os env f' φ s pn :=
  ⟨T.st, T.fm.like e, T.ext, T.nu, T.ce, T.os, fun x vs q => by rw [e]; exact T.own x vs (eo ▸ q)⟩

theorem At.turned (T : At c φ0 s0 Gs Ds Os env f φ s pn) (x : ExtU c (mu env Ds) φ s φ s') : ExtB c φ0 s0 φ s' :=
  T.ext.turn x fun a u => (T.nu a u).2.2
theorem At.cells (T : At c φ0 s0 Gs Ds Os env f φ s pn) (x : ExtU c (mu env Ds) φ s φ s') (M : Fm c Gs Ds env σ φ s'.heap) : ∀ y a, env.cells.lookup y = some a → s'.heap.get? a ≠ none := fun y a e => by
  by_cases hu : mu env Ds a
  · exact M.live_mu hu
  · exact x.live a hu (T.ce y a e)

theorem At.store {i : Nat} {u : V} {v : Value} {Q : Unit → Shared → Prop} (T : At c φ0 s0 Gs Ds Os env f φ s pn) (hi : i ∈ Ds) (ho : i ∉ Os) (hu : Is c φ u v)
    (P : ∀ s', At c φ0 s0 Gs Ds Os env ⟨set f.σ i u, f.own⟩ φ s' pn → Q () s') : wpAny (model c.prog c.w) A (storeName env (nm i) v) Q E s := by
  refine store_raw T.st T.fm hi (fun a u => ⟨(T.nu a u).1, (T.nu a u).2.1⟩) fun s' x S' M hv kept => P s' ⟨S', M.put (T.fm.sto i hi).1 hu hv, T.turned x, T.nu, T.cells x M, T.os, fun y vs e => ?_⟩
  obtain ⟨h1, h2, a, ws, n, q1, q2, q3, q4, q5, q6, q7, q8, q9⟩ := T.own y vs e
  have hne : i ≠ y := fun q => ho (q ▸ h1)
  refine ⟨h1, by rw [get_set, if_neg hne]; exact h2, a, ws, n, kept _ _ (fun z => ?_) q1, x.keep a _ (fun z => ?_) q6 q2, q3, q4, q5, q6, q7, q8, q9⟩
  · exact hne (nm_inj (T.fm.sto i hi).1 (T.os y h1) z.symm)
  · rcases z with z | ⟨_, _, _, z⟩
    · exact q7 z
    · exact q8 _ z

/-- a list of the frame's own gets its name -/
theorem At.storeOwn {i : Nat} {a : Addr} {ws : Array Value} {nn : Nat} {vs : List V} {Q : Unit → Shared → Prop} (T : At c φ0 s0 Gs Ds Os env f φ s pn) (hi : i ∈ Ds) (ho : i ∈ Os) 
    (h1 : s.heap.get? a = some { cls := .type "list", data := .seq ws nn }) (h2 : ws.size ≤ sizeLine) (h3 : IsL c φ vs ws.toList) (h4 : φ a = none) (h5 : some a ≠ c.p) (h6 : a ≠ env.locals) (h7 : ∀ y, env.cells.lookup y ≠ some a) (h8 : s0.heap.get? a = none)
    (P : ∀ s', At c φ0 s0 Gs Ds Os env ⟨del f.σ i, some (i, vs)⟩ φ s' pn → Q () s') : wpAny (model c.prog c.w) A (storeName env (nm i) (.ref a)) Q E s := by
  refine store_raw T.st T.fm hi (fun a u => ⟨(T.nu a u).1, (T.nu a u).2.1⟩) fun s' x S' M hv kept => P s' ⟨S', M, T.turned x, T.nu, T.cells x M, T.os, fun y us e => ?_⟩
  simp only [Option.some.injEq, Prod.mk.injEq] at e
  obtain ⟨rfl, rfl⟩ := e
  refine ⟨ho, by rw [get_del, if_pos rfl], a, ws, nn, hv, x.keep a _ (fun z => ?_) h5 h1, h2, h3, h4, h5, h6, h7, h8⟩
  rcases z with z | ⟨_, _, _, z⟩
  · exact h6 z
  · exact h7 _ z

/-- the own list is frozen -/
theorem At.freeze {x : Nat} {vs : List V} (T : At c φ0 s0 Gs Ds Os env f φ s pn) (ho : f.own = some (x, vs)) (hx : x < 56) : ∃ φ', At c φ0 s0 Gs Ds Os env ⟨set f.σ x (.list vs), none⟩ φ' s pn := by
  obtain ⟨h1, h2, a, ws, n, q1, q2, q3, q4, q5, q6, q7, q8, q9⟩ := T.own x vs ho
  refine ⟨fzAt φ a _, T.st.freeze q2 q6 (.inl q5), ?_, ⟨T.ext.same, T.ext.keep, T.ext.live, fun b e => ?_⟩, fun b u => ⟨?_, (T.nu b u).2⟩, T.ce, T.os, fun _ _ e => by cases e⟩
  · have M := (T.fm.up (fzAt_up (o := { cls := .type "list", data := .seq ws n }) q5)).like (σ' := del f.σ x) (fun i => by
      rw [get_del]
      by_cases hij : x = i
      · subst hij; rw [if_pos rfl, h2]
      · rw [if_neg hij])
    exact M.put hx (by simp only [Is]; exact ⟨a, _, n, ws, rfl, fzAt_self, rfl, rfl, q3, IsL.mono (fzAt_up q5) _ q4⟩) q1
  · unfold fzAt
    rw [if_neg (fun q => by rw [q] at e; exact e q9)]
    exact T.ext.fz b e
  · unfold fzAt
    rw [if_neg (fun q => by
      rw [q] at u
      rcases u with u | ⟨_, _, _, u⟩
      · exact q7 u
      · exact q8 _ u)]
    exact (T.nu b u).1

/-- one item behind -/
theorem At.push {x : Nat} {vs : List V} {v : Value} {u : V} {a : Addr} {ws : Array Value} {nn : Nat} {h' : Heap} (T : At c φ0 s0 Gs Ds Os env f φ s pn) (ho : f.own = some (x, vs)) (q1 : VarAt c env s.heap (nm x) (.ref a)) (q4 : IsL c φ vs ws.toList) (q5 : φ a = none) (q6 : some a ≠ c.p) (q7 : a ≠ env.locals) (q8 : ∀ y, env.cells.lookup y ≠ some a) (q9 : s0.heap.get? a = none)
    (hu : Is c φ u v) (hs : Heap.SameBut a s.heap h') (hp : h'.get? a = some { cls := .type "list", data := .seq (ws.push v) nn }) (hz : ws.size + 1 ≤ sizeLine) : At c φ0 s0 Gs Ds Os env ⟨f.σ, some (x, vs ++ [u])⟩ φ { s with heap := h' } pn := by
  obtain ⟨h1, h2, _⟩ := T.own x vs ho
  obtain ⟨y, S'⟩ := T.st.turn (U := (· = a)) (h' := h') (tk := s.toks) (fun b q => by rw [q]; exact ⟨q5, q6⟩) fun b o q e => (hs.2 b q).trans e
  have kept : ∀ y w, VarAt c env s.heap y w → VarAt c env h' y w := fun y w q => by
    rcases q with ⟨e1, m, hm, e2⟩ | ⟨e1, b, e2, e3, e4⟩
    · exact .inl ⟨e1, m, hm.sameBut hs (Ne.symm q7), e2⟩
    · exact .inr ⟨e1, b, e2, e3, e4.sameBut hs fun q => q8 y (q ▸ e2)⟩
  refine ⟨S', ⟨⟨T.fm.kind, T.fm.glb, T.fm.blt, T.fm.gs, T.fm.cl, T.fm.loc, T.fm.apart, T.fm.dom, fun i w e => let ⟨v', p1, p2⟩ := T.fm.vars i w e; ⟨v', p1, kept _ _ p2⟩⟩, let ⟨m, hm⟩ := T.fm.ns; ⟨m, hm.sameBut hs (Ne.symm q7)⟩, fun i hi => ⟨(T.fm.sto i hi).1, (T.fm.sto i hi).2.imp id fun ⟨q, b, v', e1, e2, e3⟩ => ⟨q, b, v', e1, e2.sameBut hs (fun q => q8 _ (q ▸ e1)), e3⟩⟩⟩, ?_, T.nu, ?_, T.os, ?_⟩
  · exact T.ext.turn y fun b q => by rw [q]; exact q9
  · intro z b e
    have : b ≠ a := fun q => q8 z (q ▸ e)
    rw [show ({ s with heap := h' } : Shared).heap.get? b = s.heap.get? b from hs.2 b this]
    exact T.ce z b e
  · intro z us e
    simp only [Option.some.injEq, Prod.mk.injEq] at e
    obtain ⟨rfl, rfl⟩ := e
    exact ⟨h1, h2, a, ws.push v, nn, kept _ _ q1, hp, by rw [Array.size_push]; exact hz, by rw [Array.toList_push]; exact q4.append ⟨hu, trivial⟩, q5, q6, q7, q8, q9⟩
end
end Mine

set_option autoImplicit false
namespace Mine
open PySem PySem.W PySem.Calls PyProof.Rows PyProof

noncomputable def chkN : List PySem.Expr → List Nat → Bool
  | ts, [] => onNil true ts
  | ts, x :: xs => onCons (fun e r => nameIs e x && chkN r xs) ts
theorem chkN_rec {M : List PySem.Expr → List Nat → Prop} (k0 : M [] []) (k1 : ∀ p x ts xs, M ts xs → M (.Name (nm x) p :: ts) (x :: xs)) : ∀ {xs : List Nat} {ts : List PySem.Expr}, chkN ts xs = true → M ts xs
  | [], _, h => inNil (M := fun ts => M ts []) (fun _ => k0) h
  | x :: xs, _, h => inCons (M := fun ts => M ts (x :: xs)) (fun _ r h => and2k h fun h1 h2 => nameIs_is (M := fun e => M (e :: r) (x :: xs)) h1 fun p => k1 p x r xs (chkN_rec k0 k1 h2)) h

section
variable {c : Cx} {A : Around} {s s' : Shared} {s0 : Base} {φ φ0 φ' : Fz} {pn pn' : Pn} {k m n : Nat} {E : Value → Shared → Prop} {env : PySem.Env} {σ : Env} {Gs Ds Os : List Nat} {f : Fs}

/-- names are stored, one after the other -/
noncomputable def Stores (c : Cx) (A : Around) (E : Value → Shared → Prop) (env : PySem.Env) : List Str → List Value → (Shared → Prop) → Shared → Prop
  | [], [], Q, s => Q s
  | n :: ns, v :: vs, Q, s => wpAny (model c.prog c.w) A (storeName env n v) (fun _ s' => Stores c A E env ns vs Q s') E s
  | _, _, _, _ => False

theorem stores_bind : ∀ {ns : List Str} {vs : List Value} {Q : Shared → Prop} {s : Shared}, Stores c A E env ns vs Q s → wpAny (model c.prog c.w) A (assignInOrder (ns.map fun n => bindName env n) vs) (fun _ => Q) E s
  | [], [], _, _, h => assignInOrder_nil h
  | _ :: _, _ :: _, _, _, h => assignInOrder_cons (wpAny_bindName (wpAny_mono h (fun _ _ q => stores_bind q) fun _ _ x => x))
  | [], _ :: _, _, _, h => h.elim
  | _ :: _, [], _, _, h => h.elim
theorem chkN_shape {ts : List PySem.Expr} {xs : List Nat} (h : chkN ts xs = true) : ∀ t ∈ ts, ∃ s p, t = .Name s p :=
  chkN_rec (M := fun ts _ => ∀ t ∈ ts, ∃ s p, t = .Name s p) (fun _ h => nomatch h) (fun p x _ _ ih t ht => (List.mem_cons.mp ht).elim (fun q => ⟨nm x, p, q⟩) (ih t)) h
theorem chkN_len {ts : List PySem.Expr} {xs : List Nat} (h : chkN ts xs = true) : ts.length = xs.length :=
  chkN_rec (M := fun ts xs => ts.length = xs.length) rfl (fun _ _ _ _ ih => congrArg (· + 1) ih) h
theorem stores_assign {ts : List PySem.Expr} {xs : List Nat} {vs : List Value} {Q : Shared → Prop} {s : Shared} (hc : chkN ts xs = true) (h : Stores c A E env (xs.map nm) vs Q s) : wpAny (model c.prog c.w) A (assignInOrder ((assignEach ts env).map (·.2)) vs) (fun _ => Q) E s := by
  refine chkN_rec (M := fun ts xs => ∀ vs s, Stores c A E env (xs.map nm) vs Q s → wpAny (model c.prog c.w) A (assignInOrder ((assignEach ts env).map (·.2)) vs) (fun _ => Q) E s) (fun vs s h => ?_) (fun p x ts xs ih vs s h => ?_) hc vs s h
  · cases vs with
    | nil => exact assignInOrder_nil h
    | cons => exact h.elim
  · cases vs with
    | nil => exact h.elim
    | cons v vs => exact assignInOrder_cons (wpAny_assign_Name (wpAny_mono h (fun _ s q => ih vs s q) fun _ _ x => x))
theorem assignEach_len {ts : List PySem.Expr} {xs : List Nat} (hc : chkN ts xs = true) : (assignEach ts env).length = xs.length ∧ (assignEach ts env).findIdx? (·.1) = none :=
  chkN_rec (M := fun ts xs => (assignEach ts env).length = xs.length ∧ (assignEach ts env).findIdx? (·.1) = none) ⟨rfl, rfl⟩ (fun p x ts xs ih => ⟨congrArg (· + 1) ih.1, by
    show ((false, assign (.Name (nm x) p) env) :: assignEach ts env).findIdx? (·.1) = none
    rw [List.findIdx?_cons, ih.2]; rfl⟩) hc

theorem filter_names (g : PySem.Expr → Option Str) (hg : ∀ x p y, g (.Name x p) = some y → y = x) {ts : List PySem.Expr} {xs : List Nat} (hc : chkN ts xs = true) : (ts.filterMap g).length = ts.length → ts.filterMap g = xs.map nm := by
  refine chkN_rec (M := fun ts xs => (ts.filterMap g).length = ts.length → ts.filterMap g = xs.map nm) (fun _ => rfl) (fun p x ts xs ih hl => ?_) hc
  cases h : g (.Name (nm x) p) with
  | none =>
    rw [List.filterMap_cons_none h] at hl
    exact absurd (List.length_filterMap_le g ts) (by rw [hl]; exact Nat.not_succ_le_self _)
  | some y =>
    rw [List.filterMap_cons_some h] at hl ⊢
    rw [ih (Nat.succ.inj hl), hg _ _ _ h]; rfl

theorem swapped_is {ts vs : List PySem.Expr} {xs : List Nat} {kk kk' : Nat} {p p' : Pos} (hc : chkN ts xs = true) (hf : (vs.all (foldedForSure 8) || !vs.all (constantsAlone 8)) = true) :
    swappedStores [.Tuple ts kk p] (.Tuple vs kk' p') env = pure none ∨ (swappedStores [.Tuple ts kk p] (.Tuple vs kk' p') env = pure (some (xs.map nm)) ∧ (xs.length = 2 ∨ xs.length = 3)) := by
  unfold swappedStores
  dsimp only
  split
  · exact .inl rfl
  · rename_i h1
    split
    · exact .inl rfl
    · split
      · exact .inl rfl
      · rename_i h2
        split
        · exact .inl rfl
        · rename_i h3
          split
          · rename_i h4
            rw [h4] at hf
            simp only [Bool.not_eq_true] at h3
            rw [h3] at hf; cases hf
          · right
            have hl : (ts.filterMap fun
                | .Name id pos => if env.kindOf id == some .local && pos.line == (ts.head?.map (·.pos.line)).getD 0 then some id else none
                | _ => none).length = ts.length := by
              simp only [Bool.or_eq_true, bne_iff_ne, ne_eq, not_or, Decidable.not_not] at h2
              exact h2.1
            have e := filter_names _ (fun x p y h => by
              dsimp only at h
              split at h
              · exact (Option.some.inj h).symm
              · exact noO h) hc hl
            refine ⟨congrArg (fun z => pure (some z)) e, ?_⟩
            have hn := chkN_len hc
            simp only [Bool.or_eq_true, Bool.not_eq_true', not_or, Bool.not_eq_false] at h1
            have h5 := h1.1.1
            simp only [Bool.or_eq_true, beq_iff_eq] at h5
            omega

theorem exec_tuple {ts vs' : List PySem.Expr} {xs : List Nat} {kk kk' : Nat} {p p' pos : Pos} {Q : Flow → Shared → Prop} (hh : A.handled = none) (hc : chkN ts xs = true) (hf : (vs'.all (foldedForSure 8) || !vs'.all (constantsAlone 8)) = true)
    (h : wpAny (model c.prog c.w) A (spliced (backTo p' (starEach vs' env))) (fun vs s₁ => vs.length = xs.length ∧ vs.length ≤ sizeLine ∧ ∀ h', (∀ a o, s₁.heap.get? a = some o → h'.get? a = some o) →
      Stores c A E env (xs.map nm) vs (Q .next) { s₁ with heap := h' } ∧ ((xs.length = 2 ∨ xs.length = 3) → Stores c A E env (xs.map nm).reverse vs.reverse (Q .next) { s₁ with heap := h' })) E s) :
    wpAny (model c.prog c.w) A (exec (.Assign [.Tuple ts kk p] (.Tuple vs' kk' p') pos) env) Q E s := by
  rcases swapped_is (env := env) (kk := kk) (kk' := kk') (p := p) (p' := p') hc hf with hw | ⟨hw, hn⟩
  · refine Assign_Tuple (Tuple_ (wpAny_mono h (fun vs s₁ ⟨h1, h2, h3⟩ => ?_) fun _ _ x => x)) rfl hw
    refine wpAny_newObj_type ?_ (by show vs.toArray.size ≤ sizeLine; rw [List.size_toArray]; exact h2)
    have ht : IsTup (s₁.heap.push { cls := .type "tuple", data := .seq vs.toArray }) s₁.heap.objs.size vs.toArray := ⟨_, Heap.get?_push_size _ rfl, rfl, 0, rfl⟩
    obtain ⟨e1, e2⟩ := assignEach_len (env := env) hc
    refine PyProof.Rows.assign_Tuple_tuple hh ht (by rw [e1, List.size_toArray, h1]) e2 fun h' he => ?_
    have := (h3 h' fun a o e => he a o (by
      have := ltN (Heap.lt_size e)
      rw [Heap.size_push]; exact na (by omega)) (push_keeps _ _ e)).1
    exact stores_assign hc this
  · refine Assign_Tuple_swapped (names := xs.map nm) (Tuple_ (wpAny_mono h (fun vs s₁ ⟨h1, h2, h3⟩ => ?_) fun _ _ x => x)) rfl hw
    refine wpAny_newObj_type ?_ (by show vs.toArray.size ≤ sizeLine; rw [List.size_toArray]; exact h2)
    have ht : IsTup (s₁.heap.push { cls := .type "tuple", data := .seq vs.toArray }) s₁.heap.objs.size vs.toArray := ⟨_, Heap.get?_push_size _ rfl, rfl, 0, rfl⟩
    have hl : (xs.map nm).length = vs.toArray.size := by rw [List.length_map, List.size_toArray, h1]
    rw [hl]
    refine unpackItems_tuple hh ht fun h' he => ?_
    have := (h3 h' fun a o e => he a o (by
      have := ltN (Heap.lt_size e)
      rw [Heap.size_push]; exact na (by omega)) (push_keeps _ _ e)).2 hn
    exact stores_bind this

theorem stores_ok : ∀ {xs : List Nat} {us : List V} {vs : List Value} {f : Fs} {σ' : Env} {s : Shared} {Q : Shared → Prop}, (∀ i ∈ xs, i ∈ Ds ∧ i ∉ Os) → At c φ0 s0 Gs Ds Os env f φ s pn → IsL c φ us vs → assignsL f.σ xs us = some σ' →
    (∀ s', At c φ0 s0 Gs Ds Os env ⟨σ', f.own⟩ φ s' pn → Q s') → Stores c A E env (xs.map nm) vs Q s
  | [], [], [], f, σ', s, Q, _, T, _, h, P => by simp only [assignsL, Option.some.injEq] at h; subst h; exact P s T
  | x :: xs, u :: us, v :: vs, f, σ', s, Q, hx, T, hi, h, P => by
    simp only [assignsL] at h
    exact T.store (hx x (by simp)).1 (hx x (by simp)).2 hi.1 fun s' T' => stores_ok (fun i q => hx i (by simp [q])) T' hi.2 h P
  | [], _ :: _, _, _, _, _, _, _, _, _, h, _ => by simp [assignsL] at h
  | _ :: _, [], _, _, _, _, _, _, _, _, h, _ => by simp [assignsL] at h
  | [], [], _ :: _, _, _, _, _, _, _, h, _, _ => by simp [IsL] at h
  | _ :: _, _ :: _, [], _, _, _, _, _, _, h, _, _ => by simp [IsL] at h

theorem rev_same {xs : List Nat} {us : List V} {σ σ' : Env} (hn : xs.length = 2 ∨ xs.length = 3) (hd : xs.Nodup) (h : assignsL σ xs us = some σ') : ∃ σ'', assignsL σ xs.reverse us.reverse = some σ'' ∧ ∀ i, get σ' i = get σ'' i := by
  match xs, us, hn, hd, h with
  | [a, b], [u, v], _, hd, h =>
    simp only [assignsL, Option.some.injEq] at h
    subst h
    refine ⟨_, rfl, fun i => ?_⟩
    simp at hd
    simp only [get_set]
    by_cases h1 : b = i
    · subst h1; simp [hd]
    · simp [h1]
  | [a, b, d], [u, v, w], _, hd, h =>
    simp only [assignsL, Option.some.injEq] at h
    subst h
    refine ⟨_, rfl, fun i => ?_⟩
    simp at hd
    simp only [get_set]
    by_cases h1 : d = i
    · subst h1; simp [hd]
    · by_cases h2 : b = i
      · subst h2; simp [hd, h1]
      · simp [h1, h2]
  | [], _, hn, _, _ => simp at hn
  | [_], _, hn, _, _ => simp at hn
  | _ :: _ :: _ :: _ :: _, _, hn, _, _ => simp at hn
  | [_, _], [], _, _, h => simp [assignsL] at h
  | [_, _], [_], _, _, h => simp [assignsL] at h
  | [_, _], _ :: _ :: _ :: _, _, _, h => simp [assignsL] at h
  | [_, _, _], [], _, _, h => simp [assignsL] at h
  | [_, _, _], [_], _, _, h => simp [assignsL] at h
  | [_, _, _], [_, _], _, _, h => simp [assignsL] at h
  | [_, _, _], _ :: _ :: _ :: _ :: _, _, _, h => simp [assignsL] at h
theorem IsL.reverse {us : List V} {vs : List Value} (h : IsL c φ us vs) : IsL c φ us.reverse vs.reverse := by
  induction us generalizing vs with
  | nil => cases vs <;> first | exact h | (simp only [IsL] at h)
  | cons u us ih =>
    cases vs with
    | nil => simp only [IsL] at h
    | cons v vs =>
      rw [List.reverse_cons, List.reverse_cons]
      exact (ih h.2).append ⟨h.1, trivial⟩
end
end Mine

set_option autoImplicit false
namespace Mine
open PySem PySem.W PySem.Calls PyProof.Rows PyProof

noncomputable def isFreeze : S → Bool
  | .freeze _ => true
  | _ => false
noncomputable def chkB (f : Stmt → S → Bool) : List Stmt → List S → Bool
  | es, [] => onNil true es
  | es, s :: ss => bif isFreeze s then chkB f es ss else onCons (fun e r => f e s && chkB f r ss) es
theorem chkB_cons {f : Stmt → S → Bool} {s : S} {ss : List S} {M : List Stmt → Prop} (q : isFreeze s = false) (k : ∀ e r, f e s = true → chkB f r ss = true → M (e :: r)) {es : List Stmt} (h : chkB f es (s :: ss) = true) : M es :=
  inCons (M := M) (fun e r h => and2k h (k e r)) (show onCons (fun e r => f e s && chkB f r ss) es = true by rw [chkB, q] at h; exact h)
noncomputable def nodup : List Nat → Bool
  | [] => true
  | x :: xs => !xs.contains x && nodup xs
noncomputable def storable (Ds Os : List Nat) (i : Nat) : Bool := Ds.contains i && !Os.contains i
noncomputable def chkS (k : Nat) (Gs Ds Os : List Nat) : Nat → Stmt → S → Bool
  | 0, _, _ => false
  | m + 1, e, x => match x with
    | .assign x v => onSAssign (fun ts v' _ => on1 (fun t => onName (fun s _ => strEq s (nm x) && storable Ds Os x && chkE k m Gs v' v) t) ts) e
    | .own x v => onSAssign (fun ts v' _ => on1 (fun t => onName (fun s _ => strEq s (nm x) && Ds.contains x && Os.contains x && chkE k m Gs v' v) t) ts) e
    | .freeze _ => false
    | .append x v => onSExpr (fun w _ => onCall (fun g as kw p => onAttribute (fun o a ap => onName (fun s _ => on1 (fun v' => onNil (strEq s (nm x) && strEq a (Str.ofString "append") && chkE k m Gs v' v && decide (ap.endLine = p.line)) kw) as) o) g) w) e
    | .assignT xs vs => onSAssign (fun ts w _ => on1 (fun t => onTuple (fun ts _ _ => onTuple (fun vs' _ _ => chkN ts xs && chkL (chkE k m Gs) vs' vs && (xs.all (storable Ds Os)) && nodup xs && (vs'.all (foldedForSure 8) || !vs'.all (constantsAlone 8)) && decide (vs'.length < 1000)) w) t) ts) e
    | .ownNil x y v => onSAssign (fun ts w _ => on1 (fun t => onTuple (fun ts _ _ => onTuple (fun vs' _ _ => on2 (fun l v' => onList (fun l _ => onNil (chkN ts [x, y] && Ds.contains x && Os.contains x && storable Ds Os y && chkE k m Gs v' v) l) l) vs') w) t) ts) e
    | .setPen p i v => onSAssign (fun ts v' _ => on1 (fun t => onSubscript (fun o j _ => onName (fun s _ => onConstant (fun c _ _ => onCint (fun j => strEq s (nm p) && decide (j = (i : Int)) && (i == 1 || i == 2) && chkE k m Gs v' v) c) j) o) t) ts) e
    | .ifS c t e1 => onSIf (fun c' t' e' _ => chkE k m Gs c' c && chkB (chkS k Gs Ds Os m) t' t && chkB (chkS k Gs Ds Os m) e' e1) e
    | .whileS c b => onSWhile (fun c' b' el _ => onNil (chkE k m Gs c' c && chkB (chkS k Gs Ds Os m) b' b) el) e
    | .forS tt ts src b => onSFor (fun t' it b' el _ => onNil (!tt && chkT tt ts t' && ts.all (storable Ds Os) && chkE k m Gs it src && chkB (chkS k Gs Ds Os m) b' b) el) e
    | .ret v => onSReturn (fun o _ => onSome (fun v' => chkE k m Gs v' v) o) e

/-- the shape that a match gives a statement -/
inductive CS : Stmt → S → Prop
  | assign (x : Nat) (v : X) (s : Str) (q : _) (v' : PySem.Expr) (p : _) : CS (.Assign [.Name s q] v' p) (.assign x v)
  | own (x : Nat) (v : X) (s : Str) (q : _) (v' : PySem.Expr) (p : _) : CS (.Assign [.Name s q] v' p) (.own x v)
  | append (x : Nat) (v : X) (s : Str) (q : _) (a : Str) (ap : Pos) (v' : PySem.Expr) (p : Pos) (p' : _) : CS (.Expr (.Call (.Attribute (.Name s q) a ap) [v'] [] p) p') (.append x v)
  | assignT (xs : List Nat) (vs : List X) (ts : List PySem.Expr) (a : _) (b : _) (vs' : List PySem.Expr) (a' : _) (b' : _) (p : _) : CS (.Assign [.Tuple ts a b] (.Tuple vs' a' b') p) (.assignT xs vs)
  | ownNil (x y : Nat) (v : X) (ts : List PySem.Expr) (a : _) (b : _) (c : _) (v' : PySem.Expr) (a' : _) (b' : _) (p : _) : CS (.Assign [.Tuple ts a b] (.Tuple [.List [] c, v'] a' b') p) (.ownNil x y v)
  | setPen (p i : Nat) (v : X) (s : Str) (a : _) (j : Int) (b : _) (c : _) (d : _) (v' : PySem.Expr) (e : _) : CS (.Assign [.Subscript (.Name s a) (.Constant (.int j) b c) d] v' e) (.setPen p i v)
  | ifS (c : X) (t e : List S) (c' : PySem.Expr) (t' e' : List Stmt) (p : _) : CS (.If c' t' e' p) (.ifS c t e)
  | whileS (c : X) (b : List S) (c' : PySem.Expr) (b' : List Stmt) (p : _) : CS (.While c' b' [] p) (.whileS c b)
  | forS (tt : Bool) (ts : List Nat) (src : X) (b : List S) (t' it : PySem.Expr) (b' : List Stmt) (p : _) : CS (.For t' it b' [] p) (.forS tt ts src b)
  | ret (v : X) (v' : PySem.Expr) (p : _) : CS (.Return (some v') p) (.ret v)
theorem chkS_zero {k : Nat} {Gs Ds Os : List Nat} {e : Stmt} {x : S} (h : chkS k Gs Ds Os 0 e x = true) : False := no h
theorem cs_of {k m : Nat} {Gs Ds Os : List Nat} {e : Stmt} {x : S} (h : chkS k Gs Ds Os (m + 1) e x = true) : CS e x := by
  cases x with
  | assign x v => exact inSAssign (M := fun e => CS e _) (fun ts v' p h => in1 (M := fun ts => CS (.Assign ts v' p) _) (fun t h => inName (M := fun t => CS (.Assign [t] v' p) _) (fun s q _ => .assign x v s q v' p) h) h) h
  | own x v => exact inSAssign (M := fun e => CS e _) (fun ts v' p h => in1 (M := fun ts => CS (.Assign ts v' p) _) (fun t h => inName (M := fun t => CS (.Assign [t] v' p) _) (fun s q _ => .own x v s q v' p) h) h) h
  | freeze _ => exact no h
  | append x v => exact inSExpr (M := fun e => CS e _) (fun w p' h => inCall (M := fun w => CS (.Expr w p') _) (fun g as kw p h => inAttribute (M := fun g => CS (.Expr (.Call g as kw p) p') _) (fun o a ap h => inName (M := fun o => CS (.Expr (.Call (.Attribute o a ap) as kw p) p') _) (fun s q h => in1 (M := fun as => CS (.Expr (.Call (.Attribute (.Name s q) a ap) as kw p) p') _) (fun v' h => inNil (M := fun kw => CS (.Expr (.Call (.Attribute (.Name s q) a ap) [v'] kw p) p') _) (fun _ => .append x v s q a ap v' p p') h) h) h) h) h) h
  | assignT xs vs => exact inSAssign (M := fun e => CS e _) (fun ts w p h => in1 (M := fun ts => CS (.Assign ts w p) _) (fun t h => inTuple (M := fun t => CS (.Assign [t] w p) _) (fun ts a b h => inTuple (M := fun w => CS (.Assign [.Tuple ts a b] w p) _) (fun vs' a' b' _ => .assignT xs vs ts a b vs' a' b' p) h) h) h) h
  | ownNil x y v => exact inSAssign (M := fun e => CS e _) (fun ts w p h => in1 (M := fun ts => CS (.Assign ts w p) _) (fun t h => inTuple (M := fun t => CS (.Assign [t] w p) _) (fun ts a b h => inTuple (M := fun w => CS (.Assign [.Tuple ts a b] w p) _) (fun vs' a' b' h => in2 (M := fun vs' => CS (.Assign [.Tuple ts a b] (.Tuple vs' a' b') p) _) (fun l v' h => inList (M := fun l => CS (.Assign [.Tuple ts a b] (.Tuple [l, v'] a' b') p) _) (fun l c h => inNil (M := fun l => CS (.Assign [.Tuple ts a b] (.Tuple [.List l c, v'] a' b') p) _) (fun _ => .ownNil x y v ts a b c v' a' b' p) h) h) h) h) h) h) h
  | setPen p i v => exact inSAssign (M := fun e => CS e _) (fun ts v' e h => in1 (M := fun ts => CS (.Assign ts v' e) _) (fun t h => inSubscript (M := fun t => CS (.Assign [t] v' e) _) (fun o j d h => inName (M := fun o => CS (.Assign [.Subscript o j d] v' e) _) (fun s a h => inConstant (M := fun j => CS (.Assign [.Subscript (.Name s a) j d] v' e) _) (fun c b b' h => inCint (M := fun c => CS (.Assign [.Subscript (.Name s a) (.Constant c b b') d] v' e) _) (fun j _ => .setPen p i v s a j b b' d v' e) h) h) h) h) h) h
  | ifS c t e => exact inSIf (M := fun e => CS e _) (fun c' t' e' p _ => .ifS c t e c' t' e' p) h
  | whileS c b => exact inSWhile (M := fun e => CS e _) (fun c' b' el p h => inNil (M := fun el => CS (.While c' b' el p) _) (fun _ => .whileS c b c' b' p) h) h
  | forS tt ts src b => exact inSFor (M := fun e => CS e _) (fun t' it b' el p h => inNil (M := fun el => CS (.For t' it b' el p) _) (fun _ => .forS tt ts src b t' it b' p) h) h
  | ret v => exact inSReturn (M := fun e => CS e _) (fun o p h => inSome (M := fun o => CS (.Return o p) _) (fun v' _ => .ret v v' p) h) h

section
variable {c : Cx} {A : Around} {s s' : Shared} {s0 : Base} {φ φ0 φ' : Fz} {pn pn' : Pn} {k m n : Nat} {E : Value → Shared → Prop} {env : PySem.Env} {σ : Env} {Gs Ds Os : List Nat} {f : Fs} {F : Nat → List V → Tree V} {G : Nat → Int}

theorem storable_is {i : Nat} (h : storable Ds Os i = true) : i ∈ Ds ∧ i ∉ Os := by
  simp only [storable, Bool.and_eq_true, Bool.not_eq_true', List.contains_eq_mem, decide_eq_true_eq, decide_eq_false_iff_not] at h
  exact h
theorem nodup_is : ∀ {xs : List Nat}, nodup xs = true → xs.Nodup
  | [], _ => List.nodup_nil
  | x :: xs, h => by
    simp only [nodup, Bool.and_eq_true, Bool.not_eq_true', List.contains_eq_mem, decide_eq_false_iff_not] at h
    exact List.nodup_cons.mpr ⟨h.1, nodup_is h.2⟩

/-- what a run of statements hands on -/
noncomputable def PX (c : Cx) (φ0 : Fz) (s0 : Base) (Gs Ds Os : List Nat) (env : PySem.Env) (K : Pn → Fs × Option V → Prop) (Q : Flow → Shared → Prop) : Prop :=
  ∀ f' φ' s' pn', At c φ0 s0 Gs Ds Os env f' φ' s' pn' → (K pn' (f', Option.none) → Q .next s') ∧ ∀ u v, K pn' (f', some u) → Is c φ' u v → Q (.ret v) s'

noncomputable def SX (c : Cx) (k : Nat) (F : Nat → List V → Tree V) (G : Nat → Int) (n : Nat) : Prop :=
  ∀ (m : Nat) (Gs Ds Os : List Nat) (e : Stmt) (x : S), chkS k Gs Ds Os m e x = true → ∀ (A : Around) (env : PySem.Env) (φ0 : Fz) (s0 : Base) (f : Fs) (φ : Fz) (s : Shared) (pn : Pn) (K : Pn → Fs × Option V → Prop) (Q : Flow → Shared → Prop) (E : Value → Shared → Prop),
    Room A k → At c φ0 s0 Gs Ds Os env f φ s pn → (ex F G n f x).All pn K → PX c φ0 s0 Gs Ds Os env K Q → wpAny (model c.prog c.w) A (exec e env) Q E s
noncomputable def SXB (c : Cx) (k : Nat) (F : Nat → List V → Tree V) (G : Nat → Int) (n : Nat) : Prop :=
  ∀ (m : Nat) (Gs Ds Os : List Nat) (es : List Stmt) (xs : List S), chkB (chkS k Gs Ds Os m) es xs = true → ∀ (A : Around) (env : PySem.Env) (φ0 : Fz) (s0 : Base) (f : Fs) (φ : Fz) (s : Shared) (pn : Pn) (K : Pn → Fs × Option V → Prop) (Q : Flow → Shared → Prop) (E : Value → Shared → Prop),
    Room A k → At c φ0 s0 Gs Ds Os env f φ s pn → (exB F G n f xs).All pn K → PX c φ0 s0 Gs Ds Os env K Q → wpAny (model c.prog c.w) A (execs es env) Q E s

theorem PX.next {K : Pn → Fs × Option V → Prop} {Q : Flow → Shared → Prop} (P : PX c φ0 s0 Gs Ds Os env K Q) {f' : Fs} (T : At c φ0 s0 Gs Ds Os env f' φ' s' pn') (h : K pn' (f', Option.none)) : Q .next s' := (P f' φ' s' pn' T).1 h

/-- swapsWith for a name: some Bool; true for comprehensions alone -/
inductive Swaps (env : PySem.Env) (x : Str) (p : Pos) (line : Nat) : PySem.Expr → Prop
  | no {e : PySem.Expr} (h : swapsWith e (some (.Name x p)) line env = pure false) : Swaps env x p line e
  | yes {elt : PySem.Expr} {gens : List Comprehension} {sc : Scope} {pos : Pos} (h : swapsWith (.ListComp elt gens sc pos) (some (.Name x p)) line env = pure true) : Swaps env x p line (.ListComp elt gens sc pos)
theorem swaps_comp {x : Str} {p : Pos} {line : Nat} {elt : PySem.Expr} {gens : List Comprehension} {sc : Scope} {pos : Pos} : Swaps env x p line (.ListComp elt gens sc pos) := by
  have : ∃ b, swapsWith (.ListComp elt gens sc pos) (some (.Name x p)) line env = pure b := ⟨_, rfl⟩
  obtain ⟨b, hb⟩ := this
  cases b with
  | false => exact .no hb
  | true => exact .yes hb
theorem swaps_name {value : PySem.Expr} {v : X} {x : Str} {p : Pos} {line : Nat} (hc : CE value v) : Swaps env x p line value := by
  induction hc with
  | comp => exact swaps_comp
  | comp2 => exact swaps_comp
  | _ => exact .no (Eq.refl (swapsWith _ (some (.Name x p)) line env))
theorem swaps_sub {value o i : PySem.Expr} {p : Pos} {line : Nat} : swapsWith value (some (.Subscript o i p)) line env = pure false := by
  cases value <;> rfl

/-- a block, from its statements -/
theorem sxb_step (IH : SX c k F G n) (IB : SXB c k F G n) : SXB c k F G (n + 1) := by
  intro m Gs Ds Os es xs hc A env φ0 s0 f φ s pn K Q E R T h P
  cases xs with
  | nil => exact inNil (M := fun es => wpAny (model c.prog c.w) A (execs es env) Q E s) (fun _ => wpAny_execs_nil (P.next T h)) hc
  | cons x xs =>
    simp only [exB] at h
    cases hz : isFreeze x with
    | true =>
      rw [chkB, hz] at hc
      have hc : chkB (chkS k Gs Ds Os m) es xs = true := hc
      cases x with
      | freeze y =>
        cases n with
        | zero => exact h.elim
        | succ n =>
          rw [ex] at h
          split at h
          · rename_i z vs hown
            cases hb : Nat.beq z y with
            | false => rw [hb] at h; exact h.elim
            | true =>
              rw [hb] at h
              cases Nat.eq_of_beq_eq_true hb
              obtain ⟨φ', T'⟩ := T.freeze hown (T.os _ (T.own _ _ hown).1)
              exact IB m Gs Ds Os es xs hc A env φ0 s0 _ φ' s pn K Q E R T' h P
          · exact h.elim
      | _ => exact no hz
    | false =>
      refine chkB_cons (M := fun es => wpAny (model c.prog c.w) A (execs es env) Q E s) hz (fun e r h1 h2 => ?_) hc
      refine wpAny_execs_cons (IH m Gs Ds Os e x h1 A env φ0 s0 f φ s pn _ _ E R T (Tree.all_bind _ _ h) fun f' φ' s' pn' T' => ⟨fun hk => ?_, fun u v hk hi => ?_⟩)
      · exact IB m Gs Ds Os r xs h2 A env φ0 s0 f' φ' s' pn' K Q E R T' hk P
      · exact (P f' φ' s' pn' T').2 u v hk hi

theorem chk_listcomp {M : PySem.Expr → X → Prop} {elt : PySem.Expr} {gens : List Comprehension} {sc : Scope} {pos : Pos} {x : X} (h : chkE k (m + 1) Gs (.ListComp elt gens sc pos) x = true)
    (k1 : ∀ xelt tt ts src cond cap gl t it ifs as, chkE k (m + 1) Gs (.ListComp elt [⟨t, it, ifs, as⟩] sc pos) (.comp xelt tt ts src cond cap gl) = true → M (.ListComp elt [⟨t, it, ifs, as⟩] sc pos) (.comp xelt tt ts src cond cap gl))
    (k2 : ∀ xelt t1 s1 t2 s2 cap gl n1 p1 i1 a1 n2 p2 i2 a2, chkE k (m + 1) Gs (.ListComp elt [⟨.Name n1 p1, i1, [], a1⟩, ⟨.Name n2 p2, i2, [], a2⟩] sc pos) (.comp2 xelt t1 s1 t2 s2 cap gl) = true → M (.ListComp elt [⟨.Name n1 p1, i1, [], a1⟩, ⟨.Name n2 p2, i2, [], a2⟩] sc pos) (.comp2 xelt t1 s1 t2 s2 cap gl)) : M (.ListComp elt gens sc pos) x := by
  cases x with
  | comp xelt tt ts src cond cap gl => exact in1 (M := fun gens => chkE k (m + 1) Gs (.ListComp elt gens sc pos) (.comp xelt tt ts src cond cap gl) = true → M (.ListComp elt gens sc pos) (.comp xelt tt ts src cond cap gl)) (fun g _ h => by cases g with | mk t it ifs as => exact k1 _ _ _ _ _ _ _ t it ifs as h) h h
  | comp2 xelt t1 s1 t2 s2 cap gl =>
    exact in2 (M := fun gens => chkE k (m + 1) Gs (.ListComp elt gens sc pos) (.comp2 xelt t1 s1 t2 s2 cap gl) = true → M (.ListComp elt gens sc pos) (.comp2 xelt t1 s1 t2 s2 cap gl)) (fun g1 g2 h h0 => by
      cases g1 with | mk u1 i1 f1 a1 => cases g2 with | mk u2 i2 f2 a2 =>
        revert h0
        exact inName (M := fun t => chkE k (m + 1) Gs (.ListComp elt [⟨t, i1, f1, a1⟩, ⟨u2, i2, f2, a2⟩] sc pos) (.comp2 xelt t1 s1 t2 s2 cap gl) = true → M (.ListComp elt [⟨t, i1, f1, a1⟩, ⟨u2, i2, f2, a2⟩] sc pos) (.comp2 xelt t1 s1 t2 s2 cap gl)) (fun n1 p1 h => inNil (M := fun i => chkE k (m + 1) Gs (.ListComp elt [⟨.Name n1 p1, i1, i, a1⟩, ⟨u2, i2, f2, a2⟩] sc pos) (.comp2 xelt t1 s1 t2 s2 cap gl) = true → M (.ListComp elt [⟨.Name n1 p1, i1, i, a1⟩, ⟨u2, i2, f2, a2⟩] sc pos) (.comp2 xelt t1 s1 t2 s2 cap gl)) (fun h => inName (M := fun t => chkE k (m + 1) Gs (.ListComp elt [⟨.Name n1 p1, i1, [], a1⟩, ⟨t, i2, f2, a2⟩] sc pos) (.comp2 xelt t1 s1 t2 s2 cap gl) = true → M (.ListComp elt [⟨.Name n1 p1, i1, [], a1⟩, ⟨t, i2, f2, a2⟩] sc pos) (.comp2 xelt t1 s1 t2 s2 cap gl)) (fun n2 p2 h => inNil (M := fun i => chkE k (m + 1) Gs (.ListComp elt [⟨.Name n1 p1, i1, [], a1⟩, ⟨.Name n2 p2, i2, i, a2⟩] sc pos) (.comp2 xelt t1 s1 t2 s2 cap gl) = true → M (.ListComp elt [⟨.Name n1 p1, i1, [], a1⟩, ⟨.Name n2 p2, i2, i, a2⟩] sc pos) (.comp2 xelt t1 s1 t2 s2 cap gl)) (fun _ h => k2 xelt t1 s1 t2 s2 cap gl n1 p1 i1 a1 n2 p2 i2 a2 h) h) h) h) h) h h
  | _ => exact no h
theorem use_comp (FO : FunsOk c k F G) {K : Pn → V → Prop} {u : Value → Sem Unit} {Q : Shared → Prop} {elt : PySem.Expr} {gens : List Comprehension} {sc : Scope} {cpos : Pos} {v : X} (hc : chkE k (m + 1) Gs (.ListComp elt gens sc cpos) v = true) (R : Room A k) (S : St c φ s pn) (D : Rd c Gs env σ φ s.heap)
    (h : (ev F G n σ v).All pn K) (use : ∀ D C s', CompEnd c φ s K D C s' → compPost (model c.prog c.w) A E (some u) (fun _ => Q) (.ref D) C (.ok .next) s') : wpAny (model c.prog c.w) A (evalThenUse (.ListComp elt gens sc cpos) env u) (fun _ => Q) E s := by
  cases n with
  | zero => exact h.elim
  | succ n =>
    refine chk_listcomp (M := fun e v => (ev F G (n + 1) σ v).All pn K → wpAny (model c.prog c.w) A (evalThenUse e env u) (fun _ => Q) E s) hc (fun xelt tt ts src cond cap gl t it ifs as hc h => ?_) (fun xelt t1 src1 t2 src2 cap gl n1 p1 it1 as1 n2 p2 it2 as2 hc h => ?_) h
    · have has := of_decide_eq_true (and7k hc fun q _ _ _ _ _ _ => q)
      subst has
      exact wpAny_bind (wpAny_mono (comp_core (sound FO n).1 (sound FO n).2 hc R S D h use) (fun _ _ q => wpAny_pure q) fun _ _ q => q)
    · have has := of_decide_eq_true (and2k hc fun q _ => and2k q fun q _ => and8k q fun q _ _ _ _ _ _ _ => q)
      subst has
      exact wpAny_bind (wpAny_mono (comp2_core (sound FO n).1 hc R S D h use) (fun _ _ q => wpAny_pure q) fun _ _ q => q)
/-- a name gets a value -/
theorem assign_stmt (FO : FunsOk c k F G) {x : Nat} {v : X} {v' : PySem.Expr} {p pos : Pos} {K : Pn → Fs × Option V → Prop} {Q : Flow → Shared → Prop} (hx : storable Ds Os x = true) (hc : chkE k m Gs v' v = true)
    (R : Room A k) (T : At c φ0 s0 Gs Ds Os env f φ s pn) (h : (ev F G n f.σ v).All pn fun q u => K q (⟨set f.σ x u, f.own⟩, Option.none)) (P : PX c φ0 s0 Gs Ds Os env K Q) :
    wpAny (model c.prog c.w) A (exec (.Assign [.Name (nm x) p] v' pos) env) Q E s := by
  obtain ⟨hD, hO⟩ := storable_is hx
  have fin : ∀ {C : Addr} {φ₁ : Fz} {s₁ : Shared} {pn₁ : Pn} {u : V} {w : Value}, K pn₁ (⟨set f.σ x u, f.own⟩, Option.none) → Ext c φ s φ₁ s₁ → St c φ₁ s₁ pn₁ → Is c φ₁ u w → wpAny (model c.prog c.w) A (storeName env (nm x) w) (fun _ => Q .next) E s₁ :=
    fun h₁ x₁ S₁ i₁ => (T.step x₁ S₁).store hD hO i₁ fun s' T' => P.next T' h₁
  cases swaps_name (env := env) (x := nm x) (p := p) (line := pos.line) (ce_of hc) with
  | no hb => exact wpAny_Assign_Name ((sound FO n).1 m Gs v' v hc A env f.σ φ s pn _ _ E R T.st T.fm.toRd h fun w u φ₁ s₁ pn₁ h₁ x₁ S₁ i₁ => fin (C := 0) h₁ x₁ S₁ i₁) hb
  | @yes elt gens sc cpos hb =>
    rw [exec_Assign_Name_used _ _ _ _ hb]
    -- a comprehension whose list is stored before its names go
    have use : ∀ {D C : Addr} {s' : Shared}, CompEnd c φ s (fun q u => K q (⟨set f.σ x u, f.own⟩, Option.none)) D C s' → compPost (model c.prog c.w) A E (some (assign (.Name (nm x) p) env)) (fun _ => Q .next) (.ref D) C (.ok .next) s' := fun {D C s'} H => by
      obtain ⟨⟨φ', pn', outs, ys, nn, mm, hK, x', S', hD', hz, hys, hφD, hφC, hns⟩, ⟨nD, pD⟩, ⟨nC, pC⟩, hne⟩ := H
      have S₂ := S'.freeze (D := D) hD' pD (.inl hφD)
      have x₂ : Ext c φ s (fzAt φ' D { cls := .type "list", data := .seq ys nn }) s' := ⟨x'.same, x'.keep, x'.live, fun a e => by
        unfold fzAt
        rw [if_neg (fun q => by rw [q] at e; exact e nD)]
        exact x'.fz a e⟩
      have i₂ : Is c (fzAt φ' D { cls := .type "list", data := .seq ys nn }) (.list outs) (.ref D) := by
        simp only [Is]
        exact ⟨D, _, nn, ys, rfl, fzAt_self, rfl, rfl, hz, IsL.mono (fzAt_up hφD) _ hys⟩
      have T₂ := T.step x₂ S₂
      refine wpAny_assign_Name (store_raw T₂.st T₂.fm hD (fun a u => ⟨(T₂.nu a u).1, (T₂.nu a u).2.1⟩) fun s₃ y₃ S₃ M₃ hv kept => ?_)
      have hCL : C ≠ env.locals := fun q => by
        obtain ⟨m', hm'⟩ := T.fm.ns
        exact ns_live hm' (q ▸ nC)
      have hCc : ∀ y, env.cells.lookup y ≠ some C := fun y q => T.ce y C q nC
      have hns₃ : s₃.heap.Ns C mm := hns.at' fun o e => y₃.keep C o (fun z => by
        rcases z with z | ⟨_, _, _, z⟩
        · exact hCL z
        · exact hCc _ z) pC e
      refine ⟨mm, hns₃, fun h' hs => ?_⟩
      have nφC : fzAt φ' D { cls := .type "list", data := .seq ys nn } C = none := by
        unfold fzAt
        rw [if_neg (fun q => hne q.symm)]
        exact hφC
      obtain ⟨z, S₄⟩ := S₃.turn (U := (· = C)) (h' := h') (tk := s₃.toks) (fun a q => by rw [q]; exact ⟨nφC, pC⟩) fun a o q e => (hs.2 a q).trans e
      have keptV : ∀ y w, VarAt c env s₃.heap y w → VarAt c env h' y w := fun y w q => by
        rcases q with ⟨e1, m, hm, e2⟩ | ⟨e1, b, e2, e3, e4⟩
        · exact .inl ⟨e1, m, hm.sameBut hs (Ne.symm hCL), e2⟩
        · exact .inr ⟨e1, b, e2, e3, e4.sameBut hs fun q => hCc y (q ▸ e2)⟩
      have M₄ : Fm c Gs Ds env (set f.σ x (.list outs)) (fzAt φ' D { cls := .type "list", data := .seq ys nn }) h' := by
        have M := M₃.put (T.fm.sto x hD).1 i₂ hv
        exact ⟨⟨M.kind, M.glb, M.blt, M.gs, M.cl, M.loc, M.apart, M.dom, fun i w e => let ⟨v', p1, p2⟩ := M.vars i w e; ⟨v', p1, keptV _ _ p2⟩⟩, let ⟨m, hm⟩ := M.ns; ⟨m, hm.sameBut hs (Ne.symm hCL)⟩, fun i hi => ⟨(M.sto i hi).1, (M.sto i hi).2.imp id fun ⟨q, b, v', e1, e2, e3⟩ => ⟨q, b, v', e1, e2.sameBut hs (fun q => hCc _ (q ▸ e1)), e3⟩⟩⟩
      have nn0 : s0.heap.get? C = none := by
        cases q : s0.heap.get? C with
        | none => rfl
        | some o => exact absurd nC (T.ext.live C (by rw [q]; simp))
      refine P.next (f' := ⟨set f.σ x (.list outs), f.own⟩) ⟨S₄, M₄, ?_, T₂.nu, ?_, T.os, ?_⟩ hK
      · exact (T₂.turned y₃).turn z fun b q => by rw [q]; exact nn0
      · intro y a e
        have h3 := T₂.cells y₃ M₃ y a e
        have hne' : a ≠ C := fun q => hCc y (q ▸ e)
        rw [show ({ s₃ with heap := h' } : Shared).heap.get? a = s₃.heap.get? a from hs.2 a hne']
        exact h3
      · intro y us e
        obtain ⟨h1, h2, a, ws, n', q1, q2, q3, q4, q5, q6, q7, q8, q9⟩ := T₂.own y us e
        have hxy : x ≠ y := fun q => hO (q ▸ h1)
        have haC : a ≠ C := fun q => by
          obtain ⟨_, _, a', ws', n'', p1, p2, p3, p4, p5, p6, p7, p8, p9⟩ := T.own y us e
          have : VarAt c env s'.heap (nm y) (.ref a') := p1.keeps T.fm.loc x₂.keep
          cases VarAt.uniq this q1
          rw [q] at p2
          rw [nC] at p2; cases p2
        refine ⟨h1, by rw [get_set, if_neg hxy]; exact h2, a, ws, n', keptV _ _ (kept _ _ (fun z => hxy (nm_inj (T.fm.sto x hD).1 (T.os y h1) z.symm)) q1), (hs.2 a haC).trans (y₃.keep a _ (fun z => ?_) q6 q2), q3, q4, q5, q6, q7, q8, q9⟩
        rcases z with z | ⟨_, _, _, z⟩
        · exact q7 z
        · exact q8 _ z
    cases m with
    | zero => exact (chkE_zero hc).elim
    | succ m => exact wpAny_bind (wpAny_standAt (wpAny_bind (wpAny_mono (use_comp FO hc R T.st T.fm.toRd h fun D C s' H => use H) (fun _ _ q => wpAny_pure q) fun _ _ q => q)))
end
end Mine

set_option autoImplicit false
namespace Mine
open PySem PySem.W PySem.Calls PyProof.Rows PyProof

section
variable {c : Cx} {A : Around} {s s' : Shared} {s0 : Base} {φ φ0 φ' : Fz} {pn pn' : Pn} {k m n : Nat} {E : Value → Shared → Prop} {env : PySem.Env} {σ : Env} {Gs Ds Os : List Nat} {f : Fs} {F : Nat → List V → Tree V} {G : Nat → Int}

theorem At.dead0 (T : At c φ0 s0 Gs Ds Os env f φ s pn) {a : Addr} (h : s.heap.get? a = none) : s0.heap.get? a = none := by
  cases q : s0.heap.get? a with
  | none => rfl
  | some o => exact absurd h (T.ext.live a (by rw [q]; simp))
theorem St.dead (S : St c φ s pn) {a : Addr} (h : s.heap.get? a = none) : φ a = none := by
  cases q : φ a with
  | none => rfl
  | some o => rw [S.sub a o q] at h; cases h

theorem At.freshOwn {i : Nat} {us : List V} {vs : Array Value} {Q : Unit → Shared → Prop} (T : At c φ0 s0 Gs Ds Os env f φ s pn) (hi : i ∈ Ds) (ho : i ∈ Os) (hz : vs.size ≤ sizeLine) (hv : IsL c φ us vs.toList)
    (P : ∀ s', At c φ0 s0 Gs Ds Os env ⟨del f.σ i, some (i, us)⟩ φ s' pn → Q () s') : wpAny (model c.prog c.w) A (storeName env (nm i) (.ref s.heap.objs.size)) Q E { s with heap := s.heap.push { cls := .type "list", data := .seq vs } } := by
  obtain ⟨x₁, S₁⟩ := T.st.keeps (h' := s.heap.push { cls := .type "list", data := .seq vs }) (tk := s.toks) push_keeps
  have T₁ := T.step x₁ S₁
  have nD := heap_fresh s.heap
  refine T₁.storeOwn hi ho (Heap.get?_push_size _ rfl) hz hv (T.st.dead nD) (new_ne T.st nD) (fun q => ?_) (fun y q => T.ce y _ q nD) (T.dead0 nD) P
  obtain ⟨m', hm'⟩ := T.fm.ns
  exact ns_live hm' (q ▸ nD)

theorem add_lists_inv {u u' : V} {σ : Env} {x : Nat} {K : Pn → Fs × Option V → Prop} (h : (opV .Add u u').All pn fun q v => (match v with | .list us => .ret (⟨σ, some (x, us)⟩, Option.none) | _ => .fail : Tree (Fs × Option V)).All q K) :
    ∃ xs ys, u = .list xs ∧ u' = .list ys ∧ xs.length + ys.length ≤ 1000000 ∧ K pn (⟨σ, some (x, xs ++ ys)⟩, Option.none) := by
  rcases plusV_inv (show (plusV u u').All pn _ from h) with ⟨x, y, rfl, rfl, h⟩ | ⟨xs, ys, rfl, rfl, h⟩
  · exact False.elim h
  · obtain ⟨h1, h2⟩ := guard_all h
    exact ⟨_, _, rfl, rfl, of_decide_eq_true h1, h2⟩

theorem freshX_go {M : X → Prop} (k1 : ∀ xs, M (.list xs)) (k2 : ∀ l r, M (.bin .Add l r)) {x : X} (h : freshX x = true) : M x := by
  cases x with
  | list xs => exact k1 xs
  | bin op l r => cases op with
    | Add => exact k2 l r
    | _ => exact no h
  | _ => exact no h
theorem own_stmt (FO : FunsOk c k F G) {x : Nat} {v : X} {v' : PySem.Expr} {p pos : Pos} {K : Pn → Fs × Option V → Prop} {Q : Flow → Shared → Prop} (hD : x ∈ Ds) (hO : x ∈ Os) (hc : chkE k m Gs v' v = true) (hf : freshX v = true)
    (R : Room A k) (T : At c φ0 s0 Gs Ds Os env f φ s pn) (h : ((ev F G n f.σ v).bind fun u => match u with | .list us => .ret (⟨del f.σ x, some (x, us)⟩, Option.none) | _ => .fail).All pn K) (P : PX c φ0 s0 Gs Ds Os env K Q) :
    wpAny (model c.prog c.w) A (exec (.Assign [.Name (nm x) p] v' pos) env) Q E s := by
  cases m with
  | zero => exact (chkE_zero hc).elim
  | succ m =>
    cases n with
    | zero => exact h.elim
    | succ n =>
      refine freshX_go (M := fun v => chkE k (m + 1) Gs v' v = true → ((ev F G (n + 1) f.σ v).bind fun u => match u with | .list us => .ret (⟨del f.σ x, some (x, us)⟩, Option.none) | _ => .fail).All pn K → wpAny (model c.prog c.w) A (exec (.Assign [.Name (nm x) p] v' pos) env) Q E s) (fun xs hc h => ?_) (fun l r hc h => ?_) hf hc h
      · refine inList (M := fun e => wpAny (model c.prog c.w) A (exec (.Assign [.Name (nm x) p] e pos) env) Q E s) (fun es p' hc => and2k hc fun hc hz => ?_) hc
        · skip
          simp only [ev] at h
          have h := Tree.all_bind _ _ (Tree.all_bind _ _ h)
          refine wpAny_Assign_Name (List_ ?_) rfl
          refine evL_ok (sound FO n).1 xs es hc φ s pn _ _ _ R T.st T.fm.toRd (evL_len _ _ _ _ h) fun vs us φ₁ s₁ pn₁ h₁ x₁ S₁ i₁ => ?_
          have hz := lit_len hc hz i₁ h₁.2
          exact wpAny_newObj_type ((T.step x₁ S₁).freshOwn hD hO hz i₁ fun s' T' => P.next T' h₁.1) hz
      · refine inBinOp (M := fun e => wpAny (model c.prog c.w) A (exec (.Assign [.Name (nm x) p] e pos) env) Q E s) (fun l' op' r' p' hc => and3k hc fun h0 h1 h2 => ?_) hc
        · skip
          cases of_decide_eq_true h0
          simp only [ev] at h
          have h := Tree.all_bind _ _ (Tree.all_bind _ _ h)
          refine wpAny_Assign_Name (wpAny_BinOp ?_) rfl
          refine (sound FO n).1 m Gs l' l h1 A env f.σ φ s pn _ _ E R T.st T.fm.toRd h fun a u φ₁ s₁ pn₁ h₁ x₁ S₁ i₁ => ?_
          have T₁ := T.step x₁ S₁
          have h₁ := Tree.all_bind _ _ h₁
          refine (sound FO n).1 m Gs r' r h2 A env f.σ φ₁ s₁ pn₁ _ _ E R S₁ T₁.fm.toRd h₁ fun b u' φ₂ s₂ pn₂ h₂ x₂ S₂ i₂ => ?_
          have T₂ := T₁.step x₂ S₂
          obtain ⟨xs, ys, rfl, rfl, hz, hk⟩ := add_lists_inv h₂
          obtain ⟨la, vs, rfl, hl, _, el⟩ := list_is S₂ (x₂.is S₁ i₁)
          obtain ⟨lb, ws, rfl, hl', _, el'⟩ := list_is S₂ i₂
          have z1 := el.length
          have z2 := el'.length
          simp only [Array.length_toList] at z1 z2
          have hz' : vs.size + ws.size ≤ sizeLine := by rw [sizeLine_is]; omega
          refine add_listsK hl hl' hz' ?_
          exact T₂.freshOwn hD hO (by rw [Array.size_append]; exact hz') (by rw [Array.toList_append]; exact el.append el') fun s' T' => P.next T' hk

theorem kept_builtin {nme : String} : ∃ kk, (kk = Keeper.frame ∨ kk = Keeper.machine ∨ kk = Keeper.boundFrame) ∧ ∀ h : Heap, Looks (model c.prog c.w) h (keeperOf (.builtin nme)) kk :=
  ⟨.machine, .inr (.inl rfl), fun _ A Q E s _ q => wpAny_pure q⟩

theorem load_at {i : Nat} {v : Value} {pos : Pos} {Q : Value → Shared → Prop} (hk : env.scope.kind = .function) (hat : VarAt c env s.heap (nm i) v) (P : Q v s) : wpAny (model c.prog c.w) A (eval (.Name (nm i) pos) env) Q E s := by
  refine wpAny_Name ?_ (nm_plain i).1
  rcases hat with ⟨e, m, hn, hm⟩ | ⟨e, a, e1, _, e2⟩
  · exact wpAny_loadName_local hk e hn hm P
  · rcases e with e | e
    · exact wpAny_loadName_cell hk e e1 e2 P
    · exact wpAny_loadName_free hk e e1 e2 P (nm_plain i).2
theorem assigns_len : ∀ {xs : List Nat} {us : List V} {σ σ' : Env}, assignsL σ xs us = some σ' → xs.length = us.length
  | [], [], _, _, _ => rfl
  | _ :: xs, _ :: us, _, _, h => by simp only [assignsL] at h; simp [assigns_len h]
  | [], _ :: _, _, _, h => by simp [assignsL] at h
  | _ :: _, [], _, _, h => by simp [assignsL] at h

theorem append_stmt (FO : FunsOk c k F G) {x : Nat} {v : X} {v' : PySem.Expr} {p ap cp pos : Pos} {us : List V} {K : Pn → Fs × Option V → Prop} {Q : Flow → Shared → Prop} (ho : f.own = some (x, us)) (hc : chkE k m Gs v' v = true) (hline : ap.endLine = cp.line)
    (R : Room A k) (T : At c φ0 s0 Gs Ds Os env f φ s pn) (h : ((ev F G n f.σ v).bind fun u => guard (decide (us.length ≤ 1000000)) (.ret (⟨f.σ, some (x, us ++ [u])⟩, Option.none))).All pn K) (P : PX c φ0 s0 Gs Ds Os env K Q) :
    wpAny (model c.prog c.w) A (exec (.Expr (.Call (.Attribute (.Name (nm x) p) (Str.ofString "append") ap) [v'] [] cp) pos) env) Q E s := by
  refine wpAny_Expr ?_ (by unfold interactive; rw [T.fm.kind]; rfl) rfl
  have hc' : chkL (chkE k m Gs) [v'] [v] = true := Bool.and_eq_true_iff.mpr ⟨hc, rfl⟩
  refine methodCall_open (fun _ => rfl) (unstarred [v] [v'] hc' cp).2 (by simp) hline ?_
  obtain ⟨h1, h2, a, ws, nn, q1, q2, q3, q4, q5, q6, q7, q8, q9⟩ := T.own x us ho
  refine load_at T.fm.kind q1 ?_
  refine getMethod_list_append q2 rfl rfl ?_
  obtain ⟨kk, hkk, L⟩ := kept_builtin (c := c) (nme := "list.append")
  refine callWith_of (P := fun _ => True) (by rw [(unstarred (env := env) [v] [v'] hc' cp).1]; rfl) (fun h _ => ⟨kk, hkk, L h⟩) ?_
  have h := Tree.all_bind _ _ h
  have h' : (evL (ev F G n f.σ) [v]).All pn fun q vs => ∃ u, vs = [u] ∧ (guard (decide (us.length ≤ 1000000)) (.ret (⟨f.σ, some (x, us ++ [u])⟩, Option.none)) : Tree (Fs × Option V)).All q K := by
    exact Tree.all_bind_of _ _ (Tree.all_mono _ _ h fun q u hu => ⟨u, rfl, hu⟩)
  refine evalArgs_ok (sound FO n).1 hc' R T.st T.fm.toRd h' fun vs uu φ₁ s₁ pn₁ h₁ x₁ S₁ i₁ => ⟨trivial, ?_⟩
  obtain ⟨u, rfl, h₁⟩ := h₁
  match vs, i₁ with
  | [w], i₁ =>
    obtain ⟨h₂, h₃⟩ := guard_all h₁
    have hz := of_decide_eq_true h₂
    have el := q4.length
    simp only [Array.length_toList] at el
    have T₁ := T.step x₁ S₁
    have q2' := x₁.keep a _ q6 q2
    refine wpAny_list_append_plain (l := a) (items := ws) ⟨nn, q2'⟩ (fun h' hp hs => ?_) q3
    obtain ⟨nn', hp⟩ := hp
    exact P.next (T₁.push ho (q1.keeps T.fm.loc x₁.keep) (x₁.isL T.st q4) ((x₁.fz a (by rw [q2]; simp)).trans q5) q6 q7 q8 q9 i₁.1 hs hp (by rw [sizeLine_is]; omega)) h₃
  | [], i₁ => exact i₁.elim
  | _ :: _ :: _, i₁ => exact i₁.2.elim
theorem assignT_stmt (FO : FunsOk c k F G) {xs : List Nat} {vs : List X} {ts vs' : List PySem.Expr} {kk kk' : Nat} {p p' pos : Pos} {K : Pn → Fs × Option V → Prop} {Q : Flow → Shared → Prop} (hN : chkN ts xs = true) (hc : chkL (chkE k m Gs) vs' vs = true) (hs : xs.all (storable Ds Os) = true) (hd : nodup xs = true)
    (hf : (vs'.all (foldedForSure 8) || !vs'.all (constantsAlone 8)) = true) (hlen : vs'.length < 1000)
    (R : Room A k) (T : At c φ0 s0 Gs Ds Os env f φ s pn) (h : ((evL (ev F G n f.σ) vs).bind fun us => match assignsL f.σ xs us with | some σ => .ret (⟨σ, f.own⟩, Option.none) | Option.none => .fail).All pn K) (P : PX c φ0 s0 Gs Ds Os env K Q) :
    wpAny (model c.prog c.w) A (exec (.Assign [.Tuple ts kk p] (.Tuple vs' kk' p') pos) env) Q E s := by
  refine exec_tuple R.handled hN hf ?_
  refine evL_ok (sound FO n).1 vs vs' hc φ s pn _ _ _ R T.st T.fm.toRd (evL_len _ _ _ _ (Tree.all_bind _ _ h)) fun ws us φ₁ s₁ pn₁ h₁ x₁ S₁ i₁ => ?_
  obtain ⟨h₁, hl⟩ := h₁
  split at h₁
  · rename_i σ' hσ
    have T₁ := T.step x₁ S₁
    have e1 := i₁.length
    have e2 := chkL_len hc
    have hx : ∀ i ∈ xs, i ∈ Ds ∧ i ∉ Os := fun i hi => storable_is (List.all_eq_true.mp hs i hi)
    have e3 : xs.length = us.length := assigns_len hσ
    refine ⟨by omega, by rw [sizeLine_is]; omega, fun h' hk => ?_⟩
    obtain ⟨x₂, S₂⟩ := S₁.keeps (h' := h') (tk := s₁.toks) hk
    have T₂ := T₁.step x₂ S₂
    refine ⟨stores_ok hx T₂ i₁ hσ fun s' T' => P.next T' h₁, fun hn => ?_⟩
    obtain ⟨σ'', hr, hg⟩ := rev_same hn (nodup_is hd) hσ
    rw [← List.map_reverse]
    exact stores_ok (fun i hi => hx i (List.mem_reverse.mp hi)) T₂ i₁.reverse hr fun s' T' => P.next (T'.like (f' := ⟨σ', f.own⟩) hg rfl) h₁
  · exact h₁.elim
end
end Mine

set_option autoImplicit false
namespace Mine
open PySem PySem.W PySem.Calls PyProof.Rows PyProof

section
variable {c : Cx} {A : Around} {s s' : Shared} {s0 : Base} {φ φ0 φ' : Fz} {pn pn' : Pn} {k m n : Nat} {E : Value → Shared → Prop} {env : PySem.Env} {σ : Env} {Gs Ds Os : List Nat} {f : Fs} {F : Nat → List V → Tree V} {G : Nat → Int}

theorem ownNil_stmt (FO : FunsOk c k F G) {x y : Nat} {v : X} {ts : List PySem.Expr} {v' : PySem.Expr} {kk kk' : Nat} {lp p p' pos : Pos} {K : Pn → Fs × Option V → Prop} {Q : Flow → Shared → Prop} (hN : chkN ts [x, y] = true) (hD : x ∈ Ds) (hO : x ∈ Os) (hs : storable Ds Os y = true) (hc : chkE k m Gs v' v = true)
    (R : Room A k) (hown : f.own = none) (T : At c φ0 s0 Gs Ds Os env f φ s pn) (h : (ev F G n f.σ v).All pn fun q u => K q (⟨set (del f.σ x) y u, some (x, [])⟩, Option.none)) (P : PX c φ0 s0 Gs Ds Os env K Q) :
    wpAny (model c.prog c.w) A (exec (.Assign [.Tuple ts kk p] (.Tuple [.List [] lp, v'] kk' p') pos) env) Q E s := by
  obtain ⟨hyD, hyO⟩ := storable_is hs
  have hxy : x ≠ y := fun q => hyO (q ▸ hO)
  refine exec_tuple R.handled hN rfl ?_
  show wpAny _ _ (spliced (backTo p' ((false, eval (.List [] lp) env) :: starEach [v'] env))) _ _ _
  refine spliced_cons (List_ (spliced_nil ?_))
  refine wpAny_newObj_type ?_ (by show (0 : Nat) ≤ sizeLine; rw [sizeLine_is]; omega)
  rw [not_starred hc]
  obtain ⟨x₀, S₀⟩ := T.st.keeps (h' := s.heap.push { cls := .type "list", data := .seq ([] : List Value).toArray }) (tk := s.toks) push_keeps
  have T₀ := T.step x₀ S₀
  have nD := heap_fresh s.heap
  have hL : (s.heap.push { cls := .type "list", data := .seq ([] : List Value).toArray }).get? s.heap.objs.size = some { cls := .type "list", data := .seq #[] } := Heap.get?_push_size _ rfl
  have hpD := new_ne T.st nD
  refine spliced_cons ((sound FO n).1 m Gs v' v hc A env f.σ φ _ pn _ _ E R S₀ T₀.fm.toRd h fun w u φ₁ s₁ pn₁ h₁ x₁ S₁ i₁ => spliced_nil ?_)
  have T₁ := T₀.step x₁ S₁
  have hL₁ := x₁.keep _ _ hpD hL
  have hφ₁ : φ₁ s.heap.objs.size = none := (x₁.fz _ (by rw [show ({ s with heap := s.heap.push { cls := .type "list", data := .seq ([] : List Value).toArray } } : Shared).heap.get? s.heap.objs.size = _ from hL]; simp)).trans (T.st.dead nD)
  refine ⟨rfl, by show (2 : Nat) ≤ sizeLine; rw [sizeLine_is]; omega, fun h' hk => ?_⟩
  obtain ⟨x₂, S₂⟩ := S₁.keeps (h' := h') (tk := s₁.toks) hk
  have T₂ := T₁.step x₂ S₂
  have hloc : s.heap.objs.size ≠ env.locals := fun q => by
    obtain ⟨m', hm'⟩ := T.fm.ns
    exact ns_live hm' (q ▸ nD)
  have hcell : ∀ z, env.cells.lookup z ≠ some s.heap.objs.size := fun z q => T.ce z _ q nD
  refine ⟨?_, fun _ => ?_⟩
  · show wpAny _ _ (storeName env (nm x) (.ref s.heap.objs.size)) (fun _ s' => wpAny _ _ (storeName env (nm y) w) (fun _ s' => Q .next s') E s') E _
    refine T₂.storeOwn hD hO (hk _ _ hL₁) (by simp) (vs := []) trivial hφ₁ hpD hloc hcell (T.dead0 nD) fun s₃ T₃ => ?_
    exact T₃.store hyD hyO i₁ fun s₄ T₄ => P.next T₄ h₁
  · show wpAny _ _ (storeName env (nm y) w) (fun _ s' => wpAny _ _ (storeName env (nm x) (.ref s.heap.objs.size)) (fun _ s' => Q .next s') E s') E _
    have hl : ({ s₁ with heap := h' } : Shared).heap.get? s.heap.objs.size = some { cls := .type "list", data := .seq #[] } := hk _ _ hL₁
    refine store_raw T₂.st T₂.fm hyD (fun a u => ⟨(T₂.nu a u).1, (T₂.nu a u).2.1⟩) fun s₃ y₃ S₃ M hv kept => ?_
    have T₃ : At c φ0 s0 Gs Ds Os env ⟨set f.σ y u, f.own⟩ φ₁ s₃ pn₁ := ⟨S₃, M.put (T.fm.sto y hyD).1 i₁ hv, T₂.turned y₃, T₂.nu, T₂.cells y₃ M, T.os, fun z us e => by rw [hown] at e; cases e⟩
    have hl₃ := y₃.keep _ _ (fun z => by
      rcases z with z | ⟨_, _, _, z⟩
      · exact hloc z
      · exact hcell _ z) hpD hl
    refine T₃.storeOwn hD hO hl₃ (by simp) (vs := []) trivial hφ₁ hpD hloc hcell (T.dead0 nD) fun s₄ T₄ => P.next (T₄.like (f' := ⟨set (del f.σ x) y u, some (x, [])⟩) (fun i => ?_) rfl) h₁
    simp only [get_set, get_del]
    by_cases h1 : y = i
    · subst h1; simp [hxy]
    · simp [h1]

theorem pset_inv {i : Nat} {v : Int} {K : Pn → Fs × Option V → Prop} {r : Fs × Option V} (hi : (i == 1 || i == 2) = true) (h : (Tree.pset i v (.ret r)).All pn K) :
    ∃ cs sp t, pn = .known cs sp t ∧ ((i = 1 ∧ K (.known cs v t) r) ∨ (i = 2 ∧ K (.known cs sp v) r)) := by
  cases pn with
  | known cs sp t =>
    match i, hi with
    | 1, _ => simp only [Tree.All, Tree.upN, Tree.knP] at h; exact ⟨cs, sp, t, rfl, .inl ⟨rfl, h⟩⟩
    | 2, _ => simp only [Tree.All, Tree.upN, Tree.knP] at h; exact ⟨cs, sp, t, rfl, .inr ⟨rfl, h⟩⟩
    | 0, hi => simp at hi
    | _ + 3, hi => simp at hi
  | none => match i, hi with
    | 1, _ => simp only [Tree.All, Tree.upN, Tree.knP] at h
    | 2, _ => simp only [Tree.All, Tree.upN, Tree.knP] at h
    | 0, hi => simp at hi
    | _ + 3, hi => simp at hi
  | upto n => match i, hi with
    | 1, _ => simp only [Tree.All, Tree.upN, Tree.knP] at h
    | 2, _ => simp only [Tree.All, Tree.upN, Tree.knP] at h
    | 0, hi => simp at hi
    | _ + 3, hi => simp at hi

theorem setPen_stmt (FO : FunsOk c k F G) {x i : Nat} {v : X} {v' : PySem.Expr} {p p1 p2 pos : Pos} {kk : Nat} {K : Pn → Fs × Option V → Prop} {Q : Flow → Shared → Prop} (hi : (i == 1 || i == 2) = true) (hx : get f.σ x = some .pen) (hc : chkE k m Gs v' v = true)
    (R : Room A k) (T : At c φ0 s0 Gs Ds Os env f φ s pn) (h : ((ev F G n f.σ v).bind fun u => match u with | .int j => .pset i j (.ret (f, Option.none)) | _ => .fail).All pn K) (P : PX c φ0 s0 Gs Ds Os env K Q) :
    wpAny (model c.prog c.w) A (exec (.Assign [.Subscript (.Name (nm x) p) (.Constant (.int (i : Int)) kk p1) p2] v' pos) env) Q E s := by
  refine wpAny_Assign_Subscript ?_ swaps_sub
  refine (sound FO n).1 m Gs v' v hc A env f.σ φ s pn _ _ E R T.st T.fm.toRd (Tree.all_bind _ _ h) fun w u φ₁ s₁ pn₁ h₁ x₁ S₁ i₁ => ?_
  have T₁ := T.step x₁ S₁
  split at h₁
  · rename_i j
    obtain ⟨t, rfl⟩ := int_is i₁
    obtain ⟨cs, sp, tt, rfl, hk⟩ := pset_inv hi h₁
    refine var_ok T₁.fm.toRd hx fun o ho => ?_
    simp only [Is] at ho
    obtain ⟨a, ha, rfl⟩ := ho
    refine wpAny_Constant_int ?_
    obtain ⟨x₂, S₂⟩ := S₁.tok (s₁.toks + 1)
    have T₂ := T₁.step x₂ S₂
    have hpen := S₂.pen
    simp only [PenOk] at hpen
    obtain ⟨a', q, ob, nn, t1, t2, e1, e2, e3, e4, e5, e6⟩ := hpen
    rw [ha] at e1; cases e1
    have hl : ({ s₁ with toks := s₁.toks + 1 } : Shared).heap.IsList a #[.ref q, .int sp t1, .int tt t2] := ⟨ob, e3, e4, nn, e5⟩
    have hi2 : i = 1 ∨ i = 2 := by simpa using hi
    refine wpAny_setItem_list hl (by omega) (by omega) (by simp; omega) fun h' hl' hs => ?_
    have fin : ∀ sp' k', PenKnown c φ₁ h' cs sp' k' → K (.known cs sp' k') (f, Option.none) → Q .next { s₁ with toks := s₁.toks + 1, heap := h' } := fun sp' k' hp hK => by
      have na : ∀ b o, φ₁ b = some o → b ≠ a := fun b o e q => by rw [q, e2] at e; cases e
      have S₃ : St c φ₁ { s₁ with toks := s₁.toks + 1, heap := h' } (.known cs sp' k') := ⟨fun b o e => (hs.2 b (na b o e)).trans (S₂.sub b o e), S₂.bas, hp, fun b e => ⟨by
        rw [ha] at e; cases e
        obtain ⟨o', q1, _⟩ := hl'
        rw [show ({ s₁ with toks := s₁.toks + 1, heap := h' } : Shared).heap.get? a = some o' from q1]; simp, (S₂.fresh b e).2⟩⟩
      have x₃ : Ext c φ₁ { s₁ with toks := s₁.toks + 1 } φ₁ { s₁ with toks := s₁.toks + 1, heap := h' } := ⟨⟨h', _, rfl⟩, fun b o n e => (hs.2 b (fun q => n (by rw [q, ha]))).trans e, fun b e => by
        by_cases q : b = a
        · subst q
          obtain ⟨o', q1, _⟩ := hl'
          rw [show ({ s₁ with toks := s₁.toks + 1, heap := h' } : Shared).heap.get? b = some o' from q1]; simp
        · rw [show ({ s₁ with toks := s₁.toks + 1, heap := h' } : Shared).heap.get? b = _ from hs.2 b q]; exact e, fun _ _ => rfl⟩
      exact P.next (T₂.step x₃ S₃) hK
    obtain ⟨o', q1, q2, n', q3⟩ := hl'
    rcases hk with ⟨rfl, hk⟩ | ⟨rfl, hk⟩
    · exact fin j tt ⟨a, q, o', n', t, t2, ha, e2, q1, q2, q3, e6⟩ hk
    · exact fin sp j ⟨a, q, o', n', t1, t, ha, e2, q1, q2, q3, e6⟩ hk
  · simp only [Tree.All, Tree.upN, Tree.knP] at h₁

/-- the while loop -/
theorem while_stmt (FO : FunsOk c k F G) (IB : SXB c k F G n) {cx : X} {b : List S} {c' : PySem.Expr} {b' : List Stmt} {pos : Pos} {K : Pn → Fs × Option V → Prop} {Q : Flow → Shared → Prop} (hc : chkE k m Gs c' cx = true) (hb : chkB (chkS k Gs Ds Os m) b' b = true)
    (R : Room A k) (T : At c φ0 s0 Gs Ds Os env f φ s pn) (h : (whileL (fun f => tv F G n f.σ cx) (fun f => exB F G n f b) turns f).All pn K) (P : PX c φ0 s0 Gs Ds Os env K Q) :
    wpAny (model c.prog c.w) A (exec (.While c' b' [] pos) env) Q E s := by
  refine wpAny_While (codeAny_whileLoop (fun j s' => ∃ f' φ' pn', At c φ0 s0 Gs Ds Os env f' φ' s' pn' ∧ (whileL (fun f => tv F G n f.σ cx) (fun f => exB F G n f b) j f').All pn' K) ?_ turns ⟨f, φ, pn, T, h⟩)
  intro j s' hI
  refine via fun GG ret => ?_
  obtain ⟨f', φ', pn', T', h'⟩ := hI
  cases j with
  | zero => exact h'.elim
  | succ j =>
    simp only [whileL] at h'
    refine ret ((sound FO n).2 m Gs c' cx hc A env f'.σ φ' s' pn' _ _ _ R T'.st T'.fm.toRd (Tree.all_bind _ _ h') fun t φ₁ s₁ pn₁ h₁ x₁ S₁ => ?_)
    have T₁ := T'.step x₁ S₁
    cases t with
    | false =>
      rw [if_neg Bool.false_ne_true]
      exact wpAny_execs_nil (P.next T₁ h₁)
    | true =>
      rw [if_pos rfl]
      refine IB m Gs Ds Os b' b hb A env φ0 s0 f' φ₁ s₁ pn₁ _ _ _ R T₁ (Tree.all_bind _ _ h₁) fun f₂ φ₂ s₂ pn₂ T₂ => ⟨fun h₂ => ⟨j, Nat.lt_succ_self j, f₂, φ₂, pn₂, T₂, h₂⟩, fun u v h₂ i₂ => ?_⟩
      exact (P f₂ φ₂ s₂ pn₂ T₂).2 u v h₂ i₂
end
end Mine

set_option autoImplicit false
namespace Mine
open PySem PySem.W PySem.Calls PyProof.Rows PyProof

section
variable {c : Cx} {A : Around} {s s' : Shared} {s0 : Base} {φ φ0 φ' : Fz} {pn pn' : Pn} {k m n : Nat} {E : Value → Shared → Prop} {env : PySem.Env} {σ : Env} {Gs Ds Os : List Nat} {f : Fs} {F : Nat → List V → Tree V} {G : Nat → Int}

noncomputable def pinB (s0 : Base) (I : Addr) (o : Option Obj) (φi : Fz) : Base := ⟨s0.sh, ⟨fun a => if a = I then o else (s0.heap.get? a).or (φi a)⟩⟩
noncomputable def pinF (φ0 : Fz) (s0 : Base) (I : Addr) (φi : Fz) : Fz := fun a => if a = I then none else if (s0.heap.get? a).isSome then φ0 a else φi a

theorem At.pin {I : Addr} {o : Obj} {φi : Fz} (T : At c φ0 s0 Gs Ds Os env f φ s pn) (up : ∀ a o, φi a = some o → φ a = some o) (hI : s.heap.get? I = some o) (hcls : o.cls ≠ .type "list") (hφ : φ I = none) (hL : I ≠ env.locals) (hC : ∀ y, env.cells.lookup y ≠ some I) :
    At c (pinF φ0 s0 I φi) (pinB s0 I (some o) φi) Gs Ds Os env f φ s pn where
  st := T.st
  fm := T.fm
  ext := ⟨T.ext.same, fun a ob n e => by
      by_cases q : a = I
      · subst q; simp [pinB] at e; subst e; exact hI
      · simp only [pinB, q, if_false] at e
        cases q2 : s0.heap.get? a with
        | some x => rw [q2, Option.some_or] at e; cases e; exact T.ext.keep a _ n q2
        | none => rw [q2, Option.none_or] at e; exact T.st.sub a _ (up a _ e), fun a e => by
      by_cases q : a = I
      · subst q; rw [hI]; simp
      · simp only [pinB, q, if_false] at e
        cases q2 : s0.heap.get? a with
        | some x => exact T.ext.live a (by rw [q2]; simp)
        | none =>
          rw [q2, Option.none_or] at e
          cases q3 : φi a with
          | none => exact absurd q3 e
          | some y => rw [T.st.sub a _ (up a _ q3)]; simp, fun a e => by
      by_cases q : a = I
      · subst q; simp [pinF, hφ]
      · simp only [pinB, q, if_false] at e
        simp only [pinF, q, if_false]
        cases q2 : s0.heap.get? a with
        | some x => simp only [Option.isSome_some, if_true]; exact T.ext.fz a (by rw [q2]; simp)
        | none =>
          rw [q2, Option.none_or] at e
          simp only [Option.isSome_none, Bool.false_eq_true, if_false]
          cases q3 : φi a with
          | none => exact absurd q3 e
          | some y => exact up a _ q3⟩
  nu := fun a u => ⟨(T.nu a u).1, (T.nu a u).2.1, by
    have : a ≠ I := fun q => by
      rw [q] at u
      rcases u with u | ⟨_, _, _, u⟩
      · exact hL u
      · exact hC _ u
    simp only [pinB, this, if_false, (T.nu a u).2.2, Option.none_or]
    cases q3 : φi a with
    | none => rfl
    | some y => have := up a _ q3; rw [(T.nu a u).1] at this; cases this⟩
  ce := T.ce
  os := T.os
  own := fun x vs e => by
    obtain ⟨h1, h2, a, ws, nn, q1, q2, q3, q4, q5, q6, q7, q8, q9⟩ := T.own x vs e
    refine ⟨h1, h2, a, ws, nn, q1, q2, q3, q4, q5, q6, q7, q8, ?_⟩
    have : a ≠ I := fun q => by rw [q, hI] at q2; cases q2; exact hcls rfl
    simp only [pinB, this, if_false, q9, Option.none_or]
    cases q3 : φi a with
    | none => rfl
    | some y => have := up a _ q3; rw [q5] at this; cases this

theorem At.unpin {I : Addr} {o : Obj} {φi : Fz} (T : At c (pinF φ0 s0 I φi) (pinB s0 I (some o) φi) Gs Ds Os env f φ s pn) (hn : s0.heap.get? I = none) : At c φ0 s0 Gs Ds Os env f φ s pn where
  st := T.st
  fm := T.fm
  ext := by
    have na : ∀ a, s0.heap.get? a ≠ none → a ≠ I := fun a e q => e (q ▸ hn)
    have hb : ∀ a ob, s0.heap.get? a = some ob → (pinB s0 I (some o) φi).heap.get? a = some ob := fun a ob e => by simp only [pinB, na a (by rw [e]; simp), if_false, e, Option.some_or]
    have hb' : ∀ a, s0.heap.get? a ≠ none → (pinB s0 I (some o) φi).heap.get? a ≠ none := fun a e => by
      cases q : s0.heap.get? a with
      | none => exact absurd q e
      | some x => rw [hb a x q]; simp
    refine ⟨T.ext.same, fun a ob n e => T.ext.keep a ob n (hb a ob e), fun a e => T.ext.live a (hb' a e), fun a e => (T.ext.fz a (hb' a e)).trans ?_⟩
    simp only [pinF, na a e, if_false]
    cases q : s0.heap.get? a with
    | none => exact absurd q e
    | some x => simp
  nu := fun a u => ⟨(T.nu a u).1, (T.nu a u).2.1, by
    have := (T.nu a u).2.2
    simp only [pinB] at this
    split at this
    · cases this
    · exact (Option.or_eq_none_iff.mp this).1⟩
  ce := T.ce
  os := T.os
  own := fun x vs e => by
    obtain ⟨h1, h2, a, ws, nn, q1, q2, q3, q4, q5, q6, q7, q8, q9⟩ := T.own x vs e
    refine ⟨h1, h2, a, ws, nn, q1, q2, q3, q4, q5, q6, q7, q8, ?_⟩
    simp only [pinB] at q9
    split at q9
    · cases q9
    · exact (Option.or_eq_none_iff.mp q9).1
theorem At.pinned {I : Addr} {o : Obj} {φi : Fz} (T : At c (pinF φ0 s0 I φi) (pinB s0 I (some o) φi) Gs Ds Os env f φ s pn) (hp : some I ≠ c.p) : s.heap.get? I = some o ∧ φ I = none :=
  ⟨T.ext.keep I o hp (by simp [pinB]), (T.ext.fz I (by simp [pinB])).trans (by simp [pinF])⟩
theorem At.pinnedUp {I : Addr} {o : Obj} {φi φb : Fz} {sb : Shared} {fb : Fs} {pnb : Pn} (T : At c (pinF φ0 s0 I φi) (pinB s0 I (some o) φi) Gs Ds Os env f φ s pn) (Tb : At c φ0 s0 Gs Ds Os env fb φb sb pnb) (up : ∀ a o, φi a = some o → φb a = some o) (hI : φb I = none) : ∀ a o, φi a = some o → φ a = some o := fun a ob e => by
  have hne : a ≠ I := fun q => by have := up a ob e; rw [q, hI] at this; cases this
  have h1 : (pinB s0 I (some o) φi).heap.get? a ≠ none := by
    simp only [pinB, hne, if_false, e]
    cases s0.heap.get? a <;> simp
  refine (T.ext.fz a h1).trans ?_
  simp only [pinF, hne, if_false]
  cases q : s0.heap.get? a with
  | none => simpa using e
  | some x =>
    simp only [Option.isSome_some, if_true]
    rw [← Tb.ext.fz a (by rw [q]; simp)]
    exact up a ob e

/-- the rule of the for loop -/
theorem codeAny_forX {R : Result → Shared → Prop} {target : PySem.Expr} {it : Value} {body orelse : List Stmt} (I : Nat → Shared → Prop)
    (turn : ∀ n s, I n s → wpAny (model c.prog c.w) A (pyNext it) (fun r s₁ => match r with
      | none => wpAny (model c.prog c.w) A (execs orelse env) (fun f s₃ => R (.ok f) s₃) (notedBy (model c.prog c.w) A env fun e s' => R (.error e) s') s₁
      | some v => wpAny (model c.prog c.w) A (letOwnedTupleGo target it v) (fun _ s₁' => wpAny (model c.prog c.w) A (assign target env v) (fun _ s₂ => wpAny (model c.prog c.w) A (execs body env) (fun f s₃ => match f with
          | .next | .cont => ∃ m, m < n ∧ I m s₃
          | .brk => R (.ok .next) s₃
          | .ret v => R (.ok (.ret v)) s₃) (notedBy (model c.prog c.w) A env fun e s' => R (.error e) s') s₂) (notedBy (model c.prog c.w) A env fun e s' => R (.error e) s') s₁') (notedBy (model c.prog c.w) A env fun e s' => R (.error e) s') s₁) (notedBy (model c.prog c.w) A env fun e s' => R (.error e) s') s)
    (n : Nat) (h : I n s) : codeAny (model c.prog c.w) A (.forLoop target it body orelse env) R s := by
  refine codeAny_loop' rfl I (fun n s hI => ?_) n h
  show wpAny _ _ ((forTurn target it body orelse env).onRaise (fun x => do noteFrame x env; theTreesLotGoes x)) _ _ s
  refine wpAny_noted ?_
  simp only [forTurn]
  refine wpAny_bind (wpAny_standAt (wpAny_bind (wpAny_onRaise (wpAny_mono (turn n s hI) (fun r s₁ h₁ => ?_) fun _ _ h' => wpAny_standAt h'))))
  cases r with
  | none => exact wpAny_pure (.inr ⟨rfl, codeAny_block h₁⟩)
  | some v =>
    refine wpAny_bind (wpAny_mono h₁ (fun _ s₂ h₂ => wpAny_bind (wpAny_mono h₂ (fun _ s₂ h₂ => wpAny_bind (wpAny_mono h₂ (fun f s₃ h₃ => ?_) fun _ _ h' => h')) fun _ _ h' => h')) fun _ _ h' => h')
    cases f with
    | next => exact wpAny_pure (.inl ⟨rfl, h₃⟩)
    | cont => exact wpAny_pure (.inl ⟨rfl, h₃⟩)
    | brk => exact wpAny_pure h₃
    | ret v => exact wpAny_pure h₃

/-- what the for loop keeps -/
inductive ForInv (T : Fs → Fz → Shared → Pn → Prop) (It : Nat → Heap → Prop) (φi : Fz) (I : Addr) (L : Nat → Fs → Pn → Prop) (top jj : Nat) (s' : Shared) : Prop
  | mk (f' : Fs) (φ' : Fz) (pn' : Pn) (j : Nat) (hjj : jj = top + 1 - j) (hj : j ≤ top) (t : T f' φ' s' pn') (st : It j s'.heap) (up : ∀ a o, φi a = some o → φ' a = some o) (fI : φ' I = none) (h : L j f' pn') : ForInv T It φi I L top jj s'
/-- the for loop -/
theorem for_stmt (FO : FunsOk c k F G) (IB : SXB c k F G n) {x : Nat} {src : X} {b : List S} {t it : PySem.Expr} {b' : List Stmt} {pos : Pos} {K : Pn → Fs × Option V → Prop} {Q : Flow → Shared → Prop} (hct : chkT false [x] t = true) (hs : storable Ds Os x = true) (hc : chkE k m Gs it src = true) (hb : chkB (chkS k Gs Ds Os m) b' b = true)
    (R : Room A k) (T : At c φ0 s0 Gs Ds Os env f φ s pn) (h : ((ev F G n f.σ src).bind fun s => match walkable s, itemsV s with
      | true, some items => forL (fun v f => match bindT f.σ false [x] v with
          | some σ => exB F G n ⟨σ, f.own⟩ b
          | Option.none => .fail) items f
      | _, _ => .fail).All pn K) (P : PX c φ0 s0 Gs Ds Os env K Q) :
    wpAny (model c.prog c.w) A (exec (.For t it b' [] pos) env) Q E s := by
  have hD := (storable_is hs).1
  have hO := (storable_is hs).2
  refine nameIs_is (M := fun t => wpAny (model c.prog c.w) A (exec (.For t it b' [] pos) env) Q E s) hct fun tp => ?_
  refine wpAny_For ?_ (no_set hc)
  refine (sound FO n).1 m Gs it src hc A env f.σ φ s pn _ _ E R T.st T.fm.toRd (Tree.all_bind _ _ h) fun v u φ₁ s₁ pn₁ h₁ x₁ S₁ i₁ => ?_
  have T₁ := T.step x₁ S₁
  cases hw : walkable u with
  | false => rw [hw] at h₁; cases itemsV u <;> exact h₁.elim
  | true =>
    cases hi : itemsV u with
    | none => rw [hw, hi] at h₁; exact h₁.elim
    | some items =>
      rw [hw, hi] at h₁
      dsimp only at h₁
      refine iter_ok R.handled S₁ i₁ hw hi fun hz ob It st0 hfr => ?_
      have nI := heap_fresh s₁.heap
      have hpI := new_ne S₁ nI
      have hLI : s₁.heap.objs.size ≠ env.locals := fun q => by
        obtain ⟨m', hm'⟩ := T₁.fm.ns
        exact ns_live hm' (q ▸ nI)
      have hCI : ∀ y, env.cells.lookup y ≠ some s₁.heap.objs.size := fun y q => T₁.ce y _ q nI
      have n0I := T₁.dead0 nI
      generalize s₁.heap.objs.size = I at nI hpI hLI hCI n0I It st0 ⊢
      have T₂ := T₁.step (S₁.keeps (h' := s₁.heap.push ob) (tk := s₁.toks) push_keeps).1 (S₁.keeps push_keeps).2
      refine codeAny_forX (ForInv (At c φ0 s0 Gs Ds Os env) It.St φ₁ I (fun j f' pn' => (forL (fun v f => match bindT f.σ false [x] v with
          | some σ => exB F G n ⟨σ, f.own⟩ b
          | Option.none => .fail) (items.drop j) f').All pn' K) items.length) ?_ (items.length + 1) (.mk f φ₁ pn₁ 0 rfl (Nat.zero_le _) T₂ st0 (fun _ _ e => e) (S₁.dead nI) h₁)
      intro jj s' hInv
      refine via fun GG ret => ?_
      cases hInv with | mk f' φ' pn' j hjj hj T' st' up' hφ' h' =>
      have keepSt : ∀ {φa : Fz} {sa sb : Shared}, (∀ a o, φ₁ a = some o → sa.heap.get? a = some o) → (∀ a o, φ₁ a = some o → sb.heap.get? a = some o) → (∀ o, sa.heap.get? I = some o → sb.heap.get? I = some o) → ∀ i, It.St i sa.heap → It.St i sb.heap := fun {φa sa sb} h2 h3 h4 i hst =>
        It.W.frame i _ _ hst fun bb hbb o e => by
          rcases It.hfp bb hbb with q | ⟨o', ho'⟩
          · rw [q] at e ⊢; exact h4 o e
          · have := h2 bb o' ho'
            rw [this] at e; cases e
            exact h3 bb _ ho'
      -- the iterator is turned
      have turnI : ∀ {h₂ : Heap} {tk : Nat}, (∀ b o, b ∉ [I] → s'.heap.get? b = some o → h₂.get? b = some o) → At c φ0 s0 Gs Ds Os env f' φ' { s' with heap := h₂, toks := tk } pn' := fun {h₂ tk} hk => by
        have yS₃ := T'.st.turn (U := (· = I)) (h' := h₂) (tk := tk) (fun a q => q ▸ ⟨hφ', hpI⟩) fun a o q e => hk a o (by simpa using q) e
        have y := yS₃.1
        have S₃ := yS₃.2
        have kept : ∀ y w, VarAt c env s'.heap y w → VarAt c env h₂ y w := fun y w q => by
          rcases q with ⟨e1, m, hm, e2⟩ | ⟨e1, b, e2, e3, ob, e4, e5⟩
          · exact .inl ⟨e1, m, hm.at' fun o e => hk _ o (by simpa using Ne.symm hLI) e, e2⟩
          · exact .inr ⟨e1, b, e2, e3, ob, hk b _ (by simp; exact fun q => hCI y (q ▸ e2)) e4, e5⟩
        have M := T'.fm
        refine ⟨S₃, ⟨⟨M.kind, M.glb, M.blt, M.gs, M.cl, M.loc, M.apart, M.dom, fun i w e => let ⟨v', p1, p2⟩ := M.vars i w e; ⟨v', p1, kept _ _ p2⟩⟩, let ⟨m, hm⟩ := M.ns; ⟨m, hm.at' fun o e => hk _ o (by simpa using Ne.symm hLI) e⟩, fun i hi => ⟨(M.sto i hi).1, (M.sto i hi).2.imp id fun ⟨q, b, v', e1, ⟨ob, e4, e5⟩, e3⟩ => ⟨q, b, v', e1, ⟨ob, hk b _ (by simp; exact fun q => hCI _ (q ▸ e1)) e4, e5⟩, e3⟩⟩⟩, T'.ext.turn y fun b q => by rw [q]; exact n0I, T'.nu, fun z a e => ?_, T'.os, fun z us e => ?_⟩
        · cases q : s'.heap.get? a with
          | none => exact absurd q (T'.ce z a e)
          | some o => rw [show ({ s' with heap := h₂, toks := tk } : Shared).heap.get? a = some o from hk a o (by simp; exact fun q => hCI z (q ▸ e)) q]; simp
        · obtain ⟨h1, h2, a, ws, nn, q1, q2, q3, q4, q5, q6, q7, q8, q9⟩ := T'.own z us e
          obtain ⟨oI, hoI, hcls⟩ := It.cls _ _ st'
          have haI : a ≠ I := fun q => by rw [q, hoI] at q2; cases q2; rcases hcls with hc | hc <;> simp at hc
          exact ⟨h1, h2, a, ws, nn, kept _ _ q1, hk a _ (by simpa using haI) q2, q3, q4, q5, q6, q7, q8, q9⟩
      by_cases hlt : j < items.length
      · refine ret (It.W.item j s' _ _ hlt st' fun w h₂ tk hP hst hk => ?_)
        refine via fun GG ret => ?_
        obtain ⟨u2, hu2, hw2⟩ := It.hP j w hP
        have hwu : Is c φ' u2 w := Is.mono up' u2 hw2
        obtain ⟨oI, hI, hcls⟩ := It.cls _ _ hst
        have T₃ := turnI (tk := tk) hk
        have hd : items.drop j = u2 :: items.drop (j + 1) := by
          obtain ⟨q, e⟩ := List.getElem?_eq_some_iff.mp hu2
          rw [List.drop_eq_getElem_cons hlt, e]
        rw [hd] at h'
        simp only [forL, bindT_1] at h'
        have T₄ := T₃.pin (φi := φ₁) up' hI (by rcases hcls with hc | hc <;> rw [hc] <;> simp) hφ' hLI hCI
        refine ret (letOwned_ok (s := { s' with heap := h₂, toks := tk }) hI hcls (wpAny_assign_Name (T₄.store hD hO hwu fun s₅ T₅ => ?_)))
        refine IB m Gs Ds Os b' b hb A env _ _ ⟨set f'.σ x u2, f'.own⟩ φ' s₅ pn' _ _ _ R T₅ (Tree.all_bind _ _ h') fun f₆ φ₆ s₆ pn₆ T₆ => ⟨fun h₆ => ?_, fun uu vv h₆ i₆ => ?_⟩
        · have p1 := (T₆.pinned hpI).1
          have p2 := (T₆.pinned hpI).2
          have up₆ := T₆.pinnedUp T₃ up' hφ'
          refine ⟨items.length + 1 - (j + 1), hjj ▸ by omega, .mk f₆ φ₆ pn₆ (j + 1) rfl hlt (T₆.unpin n0I) ?_ up₆ p2 h₆⟩
          · refine keepSt (φa := φ₆) (sa := { s' with heap := h₂, toks := tk }) (sb := s₆) (fun a o e => T₃.st.sub a o (up' a o e)) (fun a o e => T₆.st.sub a o (up₆ a o e)) (fun o e => ?_) _ hst
            rw [hI] at e; cases e; exact p1
        · exact (P f₆ φ₆ s₆ pn₆ (T₆.unpin n0I)).2 uu vv h₆ i₆
      · have hje : j = items.length := by omega
        subst hje
        refine ret (It.W.done s' _ _ st' fun h₂ tk hk => ?_)
        rw [List.drop_length] at h'
        exact wpAny_execs_nil (P.next (turnI hk) h')
end
end Mine

set_option autoImplicit false
namespace Mine
open PySem PySem.W PySem.Calls PyProof.Rows PyProof

section
variable {c : Cx} {A : Around} {s s' : Shared} {s0 : Base} {φ φ0 φ' : Fz} {pn pn' : Pn} {k m n : Nat} {E : Value → Shared → Prop} {env : PySem.Env} {σ : Env} {Gs Ds Os : List Nat} {f : Fs} {F : Nat → List V → Tree V} {G : Nat → Int}

theorem mem_of_contains {l : List Nat} {x : Nat} (h : l.contains x = true) : x ∈ l := by simpa using h
theorem bif_all {α : Type} {y z : Nat} {t : Tree α} {K : Pn → α → Prop} (h : (bif Nat.beq y z then t else .fail).All pn K) : y = z ∧ t.All pn K := by
  cases q : Nat.beq y z with
  | true => rw [q, cond_true] at h; exact ⟨Nat.eq_of_beq_eq_true q, h⟩
  | false => rw [q] at h; exact h.elim
theorem sx_step (FO : FunsOk c k F G) (IB : SXB c k F G n) : SX c k F G (n + 1) := by
  intro m Gs Ds Os e x hc A env φ0 s0 f φ s pn K Q E R T h P
  cases m with
  | zero => exact (chkS_zero hc).elim
  | succ m =>
    have hcs := cs_of hc
    induction hcs with
    | assign x v st q v' p =>
      refine and3k hc fun h1 h2 h3 => ?_
      rw [eq_of_strEq h1]
      simp only [ex] at h
      exact assign_stmt FO h2 h3 R T (Tree.all_bind _ _ h) P
    | own x v st q v' p =>
      refine and4k hc fun h1 h2 h3 h4 => ?_
      rw [eq_of_strEq h1]
      simp only [ex] at h
      split at h
      · rename_i hf ho
        exact own_stmt FO (mem_of_contains h2) (mem_of_contains h3) h4 hf R T h P
      · exact h.elim
    | append x v st q a ap v' p p' =>
      refine and4k hc fun h1 h2 h3 h4 => ?_
      rw [eq_of_strEq h1, eq_of_strEq h2]
      simp only [ex] at h
      split at h
      · rename_i y us ho
        obtain ⟨e0, hq⟩ := bif_all h
        subst e0
        exact append_stmt FO ho h3 (of_decide_eq_true h4) R T hq P
      · exact h.elim
    | assignT xs vs ts a b vs' a' b' p =>
      refine and6k hc fun h1 h2 h3 h4 h5 h6 => ?_
      simp only [ex] at h
      exact assignT_stmt FO h1 h2 h3 h4 h5 (of_decide_eq_true h6) R T h P
    | ownNil x y v ts a b c v' a' b' p =>
      refine and5k hc fun h1 h2 h3 h4 h5 => ?_
      simp only [ex] at h
      split at h
      · rename_i ho
        exact ownNil_stmt FO h1 (mem_of_contains h2) (mem_of_contains h3) h4 h5 R ho T (Tree.all_bind _ _ h) P
      · exact h.elim
    | setPen p i v st a j b b' d v' e =>
      refine and4k hc fun h1 h2 h3 h4 => ?_
      cases of_decide_eq_true h2
      rw [eq_of_strEq h1]
      simp only [ex] at h
      split at h
      · rename_i hg
        exact setPen_stmt FO h3 hg h4 R T h P
      · exact h.elim
    | ifS cc t e c' t' e' p =>
      refine and3k hc fun h1 h2 h3 => ?_
      simp only [ex] at h
      refine wpAny_If ((sound FO n).2 m Gs _ _ h1 A env f.σ φ s pn _ _ E R T.st T.fm.toRd (Tree.all_bind _ _ h) fun b φ₁ s₁ pn₁ h' x₁ S₁ => ?_)
      have T₁ := T.step x₁ S₁
      cases b with
      | true => rw [if_pos rfl]; exact IB m Gs Ds Os _ _ h2 A env φ0 s0 f φ₁ s₁ pn₁ K Q E R T₁ h' P
      | false => rw [if_neg Bool.false_ne_true]; exact IB m Gs Ds Os _ _ h3 A env φ0 s0 f φ₁ s₁ pn₁ K Q E R T₁ h' P
    | whileS cc b c' b' p =>
      refine and2k hc fun h1 h2 => ?_
      simp only [ex] at h
      exact while_stmt FO IB h1 h2 R T h P
    | forS tt ts src b t' it b' p =>
      refine and5k hc fun h1 h2 h3 h5 h6 => ?_
      cases tt with
      | true => exact no h1
      | false =>
        simp only [ex] at h
        match ts, h2 with
        | [x], h2 => exact for_stmt FO IB h2 (and2k h3 fun h _ => h) h5 h6 R T h P
        | [], h2 => exact no h2
        | _ :: _ :: _, h2 => exact no h2
    | ret v v' p =>
      simp only [ex] at h
      exact wpAny_Return_some ((sound FO n).1 m Gs _ _ hc A env f.σ φ s pn _ _ E R T.st T.fm.toRd (Tree.all_bind _ _ h) fun v u φ₁ s₁ pn₁ h' x₁ S₁ i₁ => (P f φ₁ s₁ pn₁ (T.step x₁ S₁)).2 u v h' i₁)

theorem soundB (FO : FunsOk c k F G) : ∀ n, SX c k F G n ∧ SXB c k F G n
  | 0 => ⟨fun m Gs Ds Os e x _ A env φ0 s0 f φ s pn K Q E _ _ h _ => by simp only [ex, Tree.All, Tree.upN, Tree.knP] at h, fun m Gs Ds Os e x _ A env φ0 s0 f φ s pn K Q E _ _ h _ => by simp only [exB, Tree.All, Tree.upN, Tree.knP] at h⟩
  | n + 1 => ⟨sx_step FO (soundB FO n).2, sxb_step (soundB FO n).1 (soundB FO n).2⟩
end
end Mine

set_option autoImplicit false
namespace Mine
open PySem PySem.W PySem.Calls PyProof.Rows PyProof

mutual
noncomputable def ownsOf : S → List Nat
  | .own x _ => [x]
  | .ownNil x _ _ => [x]
  | .ifS _ t e => ownsOfL t ++ ownsOfL e
  | .whileS _ b => ownsOfL b
  | .forS _ _ _ b => ownsOfL b
  | _ => []
noncomputable def ownsOfL : List S → List Nat
  | [] => []
  | s :: r => ownsOf s ++ ownsOfL r
end
noncomputable def cellIds (sc : Scope) (l : List Nat) : List Nat := l.filter fun i => kindIn sc (nm i) .cell
noncomputable def scopeOk (sc : Scope) (ps g l os : List Nat) : Bool :=
  decide (sc.kind = .function) && !sc.isCoroutine && !sc.isGenerator && (g.all fun i => Nat.blt i 1000 && kindIn sc (fnm i) .globalImplicit) &&
  (l.all fun i => Nat.blt i 56 && (kindIn sc (nm i) .local || kindIn sc (nm i) .cell)) && (ps.all fun i => l.contains i) && nodup ps && (os.all fun i => l.contains i)
noncomputable def fnIn (K : Frag) (f : Addr) : Option FuncData := match K.lookup f with
  | some ⟨_, _, .func fd, _⟩ => some fd
  | _ => none
noncomputable def chkF (K : Frag) (k : Nat) (fd : FuncData) (ps g l : List Nat) (b : List S) : Bool :=
  (match fd.body with
    | .stmts body => chkB (chkS k (g ++ (cellIds fd.scope l).map (1000 + ·)) l (ownsOfL b) 40) body b
    | _ => false) && scopeOk fd.scope ps g l (ownsOfL b) && fd.closure.isEmpty && decide (fd.globals = mainGlobals) && decide (fd.builtins = builtinsNs) && codeIn K fd.code fd.qualname
noncomputable def fnOk (K : Frag) (k : Nat) (f : Addr) (ps g l : List Nat) (b : List S) : Bool := match fnIn K f with
  | some fd => chkF K k fd ps g l b
  | none => false
end Mine

set_option autoImplicit false
namespace Mine
open PySem PySem.W PySem.Calls PyProof.Rows PyProof

theorem bindL_skip {ko : Str → Option NameKind} {y : Str} : ∀ (bs : List (Str × Value)) (m : Str → Option Value), (∀ x ∈ bs, x.1 ≠ y) → bindL ko bs m y = m y
  | [], _, _ => rfl
  | (n, v) :: r, m, h => by
    have hn : y ≠ n := fun q => h (n, v) (by simp) q.symm
    rw [bindL, bindL_skip r _ fun x hx => h x (by simp [hx])]
    by_cases hk : ko n = some .local
    · rw [if_pos hk]; simp [hn]
    · rw [if_neg hk]
theorem bindC_skip {ko : Str → Option NameKind} {y : Str} : ∀ (bs : List (Str × Value)) (m : Str → Option Value), (∀ x ∈ bs, x.1 ≠ y) → bindC ko bs m y = m y
  | [], _, _ => rfl
  | (n, v) :: r, m, h => by
    have hn : y ≠ n := fun q => h (n, v) (by simp) q.symm
    rw [bindC, bindC_skip r _ fun x hx => h x (by simp [hx])]
    by_cases hk : ko n = some .local
    · rw [if_pos hk]
    · rw [if_neg hk]; simp [hn]

theorem bind_get {c : Cx} {φ : Fz} {ko : Str → Option NameKind} {i : Nat} {u : V} : ∀ {ps : List Nat} {us : List V} {ws : List Value} (m m' : Str → Option Value), ps.Nodup → (∀ p ∈ ps, p < 56) → IsL c φ us ws → get (ps.zip us) i = some u →
    i ∈ ps ∧ ∃ w, Is c φ u w ∧ (ko (nm i) = some .local → bindL ko ((ps.map nm).zip ws) m (nm i) = some w) ∧ (ko (nm i) ≠ some .local → bindC ko ((ps.map nm).zip ws) m' (nm i) = some w)
  | [], _, _, _, _, _, _, _, h => by simp [get] at h
  | _ :: _, [], _, _, _, _, _, _, h => by simp [get] at h
  | _ :: _, _ :: _, [], _, _, _, _, hi, _ => by simp [IsL] at hi
  | p :: ps, u0 :: us, w0 :: ws, m, m', hd, hlt, hi, h => by
    simp only [List.zip_cons_cons, get] at h
    obtain ⟨hp, hd'⟩ := List.nodup_cons.mp hd
    by_cases hpi : p = i
    · subst hpi
      simp only [Nat.beq_refl, cond_true, Option.some.injEq] at h
      subst h
      have hskip : ∀ x ∈ (ps.map nm).zip ws, x.1 ≠ nm p := fun x hx q => by
        have h1 := (List.of_mem_zip (show (x.1, x.2) ∈ (ps.map nm).zip ws from hx)).1
        obtain ⟨j, hj, e⟩ := List.mem_map.mp h1
        exact hp ((nm_inj (hlt j (by simp [hj])) (hlt p (by simp)) (e.trans q)) ▸ hj)
      refine ⟨by simp, w0, hi.1, fun hk => ?_, fun hk => ?_⟩
      · show bindL ko ((nm p, w0) :: (ps.map nm).zip ws) m (nm p) = some w0
        rw [bindL, if_pos hk, bindL_skip _ _ hskip]; simp
      · show bindC ko ((nm p, w0) :: (ps.map nm).zip ws) m' (nm p) = some w0
        rw [bindC, if_neg hk, bindC_skip _ _ hskip]; simp
    · rw [nbeq hpi, cond_false] at h
      obtain ⟨h1, w, h2, h3, h4⟩ := bind_get (ko := ko) (if ko (nm p) = some .local then fun y => if y = nm p then some w0 else m y else m) (if ko (nm p) = some .local then m' else fun y => if y = nm p then some w0 else m' y) hd' (fun q hq => hlt q (by simp [hq])) hi.2 h
      exact ⟨by simp [h1], w, h2, h3, h4⟩

theorem pair_apart {l : List (Str × Addr)} (h : l.Pairwise fun x y => x.2 ≠ y.2) : ∀ {p q : Str × Addr}, p ∈ l → q ∈ l → p.2 = q.2 → p = q := by
  induction l with
  | nil => intro p q hp; cases hp
  | cons a l ih =>
    intro p q hp hq e
    obtain ⟨h1, h2⟩ := List.pairwise_cons.mp h
    rcases List.mem_cons.mp hp with rfl | hp
    · rcases List.mem_cons.mp hq with rfl | hq
      · rfl
      · exact absurd e (h1 q hq)
    · rcases List.mem_cons.mp hq with rfl | hq
      · rename_i hp'
        first | exact absurd e.symm (h1 p hp) | exact absurd e.symm (h1 _ hp')
      · exact ih h2 hp hq e

section
variable {c : Cx} {k n : Nat} {F : Nat → List V → Tree V} {G : Nat → Int}
/-- fewer draws may be made than were allowed -/
noncomputable def Weak (K : Pn → V → Prop) (q : Pn) (v : V) : Prop := K q v ∨ ∃ n n', n ≤ n' ∧ q = .upto n ∧ K (.upto n') v
theorem Weak.go {K : Pn → V → Prop} {Q : Value → Shared → Prop} {φ φ' : Fz} {s s' : Shared} {pn : Pn} {u : V} {v : Value} (P : Post c φ s K Q) (h : Weak K pn u) (x : Ext c φ s φ' s') (S : St c φ' s' pn) (i : Is c φ' u v) : Q v s' := by
  rcases h with h | ⟨n, n', hn, rfl, h⟩
  · exact P v u φ' s' pn h x S i
  · refine P v u φ' s' (.upto n') h x ⟨S.sub, S.bas, ?_, S.fresh⟩ i
    have hp := S.pen
    simp only [PenOk] at hp ⊢
    obtain ⟨cs, sp, k, h1, h2, h3, h4, h5⟩ := hp
    exact ⟨cs, sp, k, h1, h2, h3, by omega, h5⟩
theorem fnIn_is {K : Frag} {f : Addr} {fd : FuncData} (h : fnIn K f = some fd) : ∃ oc od osl, K.lookup f = some ⟨oc, od, .func fd, osl⟩ := by
  unfold fnIn at h
  split at h
  · rename_i oc od fd' osl q
    cases h
    exact ⟨oc, od, osl, q⟩
  · cases h

/-- what a def's body is run on -/
noncomputable def Entered (c : Cx) (k : Nat) (A : Around) (φ : Fz) (s : Shared) (pn : Pn) (Q : Value → Shared → Prop) (fd : FuncData) (g l : List Nat) (b : List S) (σ : Env) : Prop :=
  ∀ (E : Value → Shared → Prop) (env : PySem.Env) (body : List Stmt) (s₁ : Shared), fd.body = .stmts body → chkB (chkS k (g ++ (cellIds fd.scope l).map (1000 + ·)) l (ownsOfL b) 40) body b = true → Room (A.deeper env) k →
    At c φ ⟨s, ⟨s.heap.get?⟩⟩ (g ++ (cellIds fd.scope l).map (1000 + ·)) l (ownsOfL b) env ⟨σ, Option.none⟩ φ s₁ pn →
    wpAny (model c.prog c.w) (A.deeper env) (execs body env) (fun f s' => Q (match f with | .ret v => v | _ => .none) s') E s₁

theorem def_enter {A : Around} {φ : Fz} {s : Shared} {pn : Pn} {E : Value → Shared → Prop} {Q : Value → Shared → Prop} {f : Addr} {ps g l : List Nat} {b : List S} {fd : FuncData} {us du : List V} {vs dv : List Value} (hfd : fnIn c.K f = some fd) (hok : chkF c.K k fd ps g l b = true) (R : Room A (k + 1)) (S : St c φ s pn) (i : IsL c φ us vs)
    (hb : BindsTo s fd ⟨vs, []⟩ ((ps.map nm).zip (vs ++ dv))) (hdv : IsL c φ du dv) (go : Entered c k A φ s pn Q fd g l b (ps.zip (us ++ du))) : wpAny (model c.prog c.w) A (call (.ref f) vs []) Q E s := by
  obtain ⟨oc, od, osl, hlk⟩ := fnIn_is hfd
  have ho := S.K _ _ hlk
  simp only [chkF, Bool.and_eq_true, decide_eq_true_eq, List.isEmpty_iff] at hok
  obtain ⟨⟨⟨⟨⟨hbody, hsc⟩, hclos⟩, hglb⟩, hblt⟩, hcode⟩ := hok
  have hbd : ∃ body, fd.body = .stmts body ∧ chkB (chkS k (g ++ (cellIds fd.scope l).map (1000 + ·)) l (ownsOfL b) 40) body b = true := by
    cases e : fd.body with
    | stmts body => rw [e] at hbody; exact ⟨body, rfl, hbody⟩
    | _ => rw [e] at hbody; cases hbody
  obtain ⟨body, hbd, hchk⟩ := hbd
  simp only [scopeOk, Bool.and_eq_true, decide_eq_true_eq, Bool.not_eq_true', List.all_eq_true, Bool.or_eq_true] at hsc
  obtain ⟨⟨⟨⟨⟨⟨⟨hk, hco⟩, hgen⟩, hg⟩, hl⟩, hps⟩, hnd⟩, hos⟩ := hsc
  have hl56 : ∀ i ∈ l, i < 56 := fun i hi => by simpa using (hl i hi).1
  have hps' : ∀ i ∈ ps, i ∈ l := fun i hi => by simpa using hps i hi
  have hp56 : ∀ i ∈ ps, i < 56 := fun i hi => hl56 i (hps' i hi)
  have hkinds : ∀ i ∈ l, fd.scope.names.lookup (nm i) = some .local ∨ fd.scope.names.lookup (nm i) = some .cell := fun i hi => by
    have := (hl i hi).2
    simpa only [kindIn, decide_eq_true_eq] using this
  have hroom : A.depth < recursionLimit := by have := R.depth; have : recursionLimit = 1000 := rfl; omega
  refine wpAny_call (codeAny_call_function hroom ho rfl hco hgen hbd (codeRec_of S.K hcode) ?_)
  refine hb _ _ _ _ ?_
  rw [hclos, hglb, hblt]
  refine wpAny_newFunctionEnv_cells hk (fun x hx => ?_) fun env he s' x => ?_
  · have h1 := (List.of_mem_zip (show (x.1, x.2) ∈ (ps.map nm).zip (vs ++ dv) from hx)).1
    obtain ⟨j, hj, e⟩ := List.mem_map.mp h1
    rw [← e]
    rcases hkinds j (hps' j hj) with q | q
    · exact .inl q
    · exact .inr ⟨q, cellsFrom_some _ _ _ (.inl q)⟩
  subst he
  have hi' : IsL c φ (us ++ du) (vs ++ dv) := i.append hdv
  obtain ⟨h₁, tk, rfl, _⟩ := x.done
  obtain ⟨x₁, S₁⟩ := S.keeps (h' := h₁) (tk := tk) x.toInCall.keep
  refine ⟨S₁.nolimit, codeAny_func ?_⟩
  generalize henv : newEnv fd.scope s.heap.objs.size mainGlobals (cellsFrom (s.heap.objs.size + 1) fd.scope.names []) (fd.qualname ++ ".<locals>.") (some f) fd.code none builtinsNs = env at x ⊢
  have e1 : env.scope = fd.scope := by rw [← henv]; rfl
  have e2 : env.locals = s.heap.objs.size := by rw [← henv]; rfl
  have e3 : env.cells = cellsFrom (s.heap.objs.size + 1) fd.scope.names [] := by rw [← henv]; rfl
  have e4 : env.globals = mainGlobals := by rw [← henv]; rfl
  have e5 : env.builtins = builtinsNs := by rw [← henv]; rfl
  have ko : ∀ y, env.kindOf y = fd.scope.names.lookup y := fun y => by unfold PySem.Env.kindOf; rw [e1]
  have newA : ∀ a, s.heap.objs.size ≤ a → s.heap.get? a = none := fun a ha => not_live ha
  have hLp : some env.locals ≠ c.p := by rw [e2]; exact new_ne S (newA _ (Nat.le_refl _))
  have cellA : ∀ y a, env.cells.lookup y = some a → s.heap.objs.size < a := fun y a e => by
    have := x.above y a (mem_of_lookup e)
    rw [e2] at this; exact this
  have cellD : ∀ y a, env.cells.lookup y = some a → s.heap.get? a = none := fun y a e => newA a (Nat.le_of_lt (cellA y a e))
  have hap : CellsApart env := ⟨fun y a e q => by
      have := cellA y a e
      rw [q, e2] at this; exact absurd this (Nat.lt_irrefl _), fun y z a e e' => congrArg Prod.fst (pair_apart x.apart (mem_of_lookup e) (mem_of_lookup e') rfl)⟩
  have T : At c φ ⟨s, ⟨s.heap.get?⟩⟩ (g ++ (cellIds fd.scope l).map (1000 + ·)) l (ownsOfL b) env ⟨ps.zip (us ++ du), Option.none⟩ φ { s with heap := h₁, toks := tk } pn := by
    refine ⟨S₁, ⟨⟨by rw [e1]; exact hk, e4, e5, fun g' hg' hlt => ?_, fun j hj => ?_, hLp, hap, fun j u hj => ?_, fun j u hj => ?_⟩, ⟨_, x.toInCall.ns⟩, fun j hj => ⟨hl56 j hj, ?_⟩⟩, ⟨⟨h₁, tk, rfl⟩, fun a o _ e => x.toInCall.keep a o e, x₁.live, fun _ _ => rfl⟩, fun a u => ?_, fun y a e => cell_live (x.cell y a e), fun j hj => hl56 j (by simpa using hos j hj), fun _ _ e => by cases e⟩
    · rw [ko]
      rcases List.mem_append.mp hg' with q | q
      · have := (hg g' q).2; simpa only [kindIn, decide_eq_true_eq] using this
      · obtain ⟨j, _, e⟩ := List.mem_map.mp q
        omega
    · rw [ko]
      rcases List.mem_append.mp hj with q | q
      · have h9 : 1000 + j < 1000 := Nat.le_of_ble_eq_true (hg _ q).1
        omega
      · obtain ⟨j', hj', e⟩ := List.mem_map.mp q
        have : j' = j := by omega
        subst this
        have := (List.mem_filter.mp hj').2
        simp only [kindIn, decide_eq_true_eq] at this
        exact .inl this
    · exact hp56 j (bind_get (ko := env.kindOf) (fun _ => none) (fun _ => none) (nodup_is hnd) hp56 hi' hj).1
    · obtain ⟨q1, w, q2, q3, q4⟩ := bind_get (ko := env.kindOf) (fun _ => none) (fun _ => none) (nodup_is hnd) hp56 hi' hj
      refine ⟨w, q2, ?_⟩
      rcases hkinds j (hps' j q1) with q | q
      · exact .inl ⟨by rw [ko]; exact q, _, x.toInCall.ns, q3 (by rw [ko]; exact q)⟩
      · have hc := cellsFrom_some (x := nm j) fd.scope.names (s.heap.objs.size + 1) [] (.inl q)
        rw [← e3] at hc
        obtain ⟨a, ha⟩ := Option.isSome_iff_exists.mp hc
        refine .inr ⟨.inl (by rw [ko]; exact q), a, ha, new_ne S (cellD _ a ha), ?_⟩
        have := x.cell _ a ha
        rw [q4 (by rw [ko, q]; simp)] at this
        exact this
    · rw [ko]
      rcases hkinds j hj with q | q
      · exact .inl q
      · have hc := cellsFrom_some (x := nm j) fd.scope.names (s.heap.objs.size + 1) [] (.inl q)
        rw [← e3] at hc
        obtain ⟨a, ha⟩ := Option.isSome_iff_exists.mp hc
        exact .inr ⟨q, a, _, ha, x.cell _ a ha, new_ne S (cellD _ a ha)⟩
    · have hn : s.heap.get? a = none := by
        rcases u with u | ⟨_, _, _, u⟩
        · rw [u, e2]; exact newA _ (Nat.le_refl _)
        · exact cellD _ a u
      exact ⟨S.dead hn, new_ne S hn, hn⟩
  have R' : Room (A.deeper env) k := ⟨R.handled, by have := R.depth; show A.depth + 1 + 4 * k ≤ 900; omega, by have := R.units; show A.units + 3 + 64 * k ≤ 9000; omega⟩
  exact go _ env body _ hbd hchk R' T

theorem def_spec {f : Addr} {ps g l : List Nat} {b : List S} {fd : FuncData} (hfd : fnIn c.K f = some fd) (hok : chkF c.K k fd ps g l b = true) (FO : FunsOk c k F G) (n : Nat) (D : List V → Tree V)
    (hD : ∀ us pn K, (D us).All pn K → ∃ du dv, (∀ (s : Shared) (vs : List Value), c.K.In s.heap → vs.length = us.length → BindsTo s fd ⟨vs, []⟩ ((ps.map nm).zip (vs ++ dv))) ∧ (∀ φ, IsL c φ du dv) ∧ (runB F G n b (ps.zip (us ++ du))).All pn (Weak K)) :
    CallSpec c (k + 1) (.ref f) D := by
  intro A φ s pn us vs K Q E R S i h P
  obtain ⟨du, dv, hb, hdv, hr⟩ := hD us pn K h
  refine def_enter hfd hok R S i (hb s vs S.K i.length.symm) (hdv φ) fun E' env body s₁ hbd hchk R' T => ?_
  refine (soundB FO n).2 40 _ _ _ body b hchk (A.deeper env) env φ _ _ φ _ pn _ _ _ R' T (Tree.all_bind _ _ hr) fun f' φ' s' pn' T' => ?_
  have ex : Ext c φ s φ' s' := ⟨T'.ext.same, T'.ext.keep, T'.ext.live, T'.ext.fz⟩
  refine ⟨fun hk => ?_, fun u v hk hu => ?_⟩
  · simp only [Tree.All, Tree.upN, Tree.knP] at hk
    exact Weak.go P hk ex T'.st is_none
  · simp only [Tree.All, Tree.upN, Tree.knP] at hk
    exact Weak.go P hk ex T'.st hu
end
end Mine

set_option autoImplicit false
namespace Mine
open PySem PySem.W PySem.Calls PyProof.Rows PyProof

section
variable {c : Cx} {A : Around} {s : Shared} {φ : Fz} {pn : Pn} {k : Nat} {E : Value → Shared → Prop}

theorem Post.int {K : Pn → V → Prop} {Q : Value → Shared → Prop} (P : Post c φ s K Q) (S : St c φ s pn) {i : Int} {t : Tok} {h' : Heap} {tk : Nat} (hk : ∀ a o, s.heap.get? a = some o → h'.get? a = some o) (h : K pn (.int i)) : Q (.int i t) { s with heap := h', toks := tk } := by
  obtain ⟨x, S'⟩ := S.keeps (h' := h') (tk := tk) hk
  exact P _ (.int i) φ _ pn h x S' is_int
theorem Post.bool {K : Pn → V → Prop} {Q : Value → Shared → Prop} (P : Post c φ s K Q) (S : St c φ s pn) {i : Bool} {h' : Heap} {tk : Nat} (hk : ∀ a o, s.heap.get? a = some o → h'.get? a = some o) (h : K pn (.bool i)) : Q (.bool i) { s with heap := h', toks := tk } := by
  obtain ⟨x, S'⟩ := S.keeps (h' := h') (tk := tk) hk
  exact P _ (.bool i) φ _ pn h x S' is_bool

/-- a list of ints, as the library has it -/
theorem ints_items {vs : List Value} {ns : List Int} (h : IntsAre vs ns) : ∃ xs : Array (Int × Tok), vs = (intItems xs).toList ∧ xs.toList.map (·.1) = ns := by
  induction h with
  | nil => exact ⟨#[], by simp [intItems], rfl⟩
  | cons n t h ih =>
    obtain ⟨xs, e1, e2⟩ := ih
    refine ⟨((n, t) :: xs.toList).toArray, ?_, by simp [e2]⟩
    subst e1
    simp [intItems]
theorem num_at {xs : Array (Int × Tok)} {i : Nat} : numAt xs i = ((xs.toList.map (·.1))[i]?).getD 0 := by
  unfold numAt
  rw [List.getElem?_map, Array.getElem?_toList]
theorem pre_sum (ns : List Int) : ∀ n, n ≤ ns.length → preSum (fun i => (ns[i]?).getD 0) n = (ns.take n).sum
  | 0, _ => by simp [preSum]
  | n + 1, h => by
    have hn : n < ns.length := h
    rw [preSum, pre_sum ns n (by omega), List.take_succ_eq_append_getElem hn, List.sum_append]
    simp [hn]

noncomputable def dInt : List V → Tree V
  | [.int i] => .ret (.int i)
  | [.bool b] => .ret (.int (if b then 1 else 0))
  | _ => .fail
noncomputable def dLen : List V → Tree V
  | [.list xs] => .ret (.int (xs.length : Int))
  | _ => .fail
noncomputable def dSum : List V → Tree V
  | [.list xs] => match intsOf xs with
    | some ns => .ret (.int ns.sum)
    | Option.none => .fail
  | _ => .fail
noncomputable def dAbs : List V → Tree V
  | [.int i] => .ret (.int (if i < 0 then -i else i))
  | _ => .fail
noncomputable def leastOf : List Int → Int
  | [] => 0
  | x :: r => r.foldl min x
noncomputable def mostOf : List Int → Int
  | [] => 0
  | x :: r => r.foldl max x
noncomputable def dMin : List V → Tree V
  | [.int a, .int b] => .ret (.int (min a b))
  | [.list xs] => match intsOf xs with
    | some (n :: ns) => .ret (.int (leastOf (n :: ns)))
    | _ => .fail
  | _ => .fail
noncomputable def dMax : List V → Tree V
  | [.int a, .int b] => .ret (.int (max a b))
  | [.list xs] => match intsOf xs with
    | some (n :: ns) => .ret (.int (mostOf (n :: ns)))
    | _ => .fail
  | _ => .fail
noncomputable def dAll : List V → Tree V
  | [.list xs] => match boolsOf xs with
    | some bs => .ret (.bool (bs.all id))
    | Option.none => .fail
  | _ => .fail
noncomputable def dRange : List V → Tree V
  | [.int b] => .ret (.rng 0 b)
  | [.int a, .int b] => .ret (.rng a b)
  | _ => .fail
noncomputable def dList : List V → Tree V
  | [.rng a b] => guard (decide (b - a ≤ 1000)) (.ret (.list ((List.range (b - a).toNat).map fun i : Nat => .int (a + (i : Int)))))
  | _ => .fail
noncomputable def dSorted : List V → Tree V
  | [.list xs] => match intsOf xs with
    | some ns => guard (decide (ns.length < 64)) (.ret (.list ((ns.mergeSort fun a b => decide (a ≤ b)).map .int)))
    | Option.none => .fail
  | _ => .fail

theorem one_arg {us : List V} {vs : List Value} {u : V} (i : IsL c φ us vs) (h : us = [u]) : ∃ v, vs = [v] ∧ Is c φ u v := by
  subst h
  match vs, i with
  | [v], i => exact ⟨v, rfl, i.1⟩
  | [], i => simp [IsL] at i
  | _ :: _ :: _, i => simp [IsL] at i
theorem two_args {us : List V} {vs : List Value} {u u' : V} (i : IsL c φ us vs) (h : us = [u, u']) : ∃ v v', vs = [v, v'] ∧ Is c φ u v ∧ Is c φ u' v' := by
  subst h
  match vs, i with
  | [v, v'], i => exact ⟨v, v', rfl, i.1, i.2.1⟩
  | [], i => simp [IsL] at i
  | [_], i => simp [IsL] at i
  | _ :: _ :: _ :: _, i => simp [IsL] at i

theorem spec_int : CallSpec c k (.type "int") dInt := by
  intro A φ s pn us vs K Q E R S i h P
  unfold dInt at h
  split at h
  · obtain ⟨v, rfl, e⟩ := one_arg i rfl
    obtain ⟨t, rfl⟩ := int_is e
    simp only [Tree.All, Tree.upN, Tree.knP] at h
    exact call_int_int (P.int S (fun _ _ e => e) h)
  · obtain ⟨v, rfl, e⟩ := one_arg i rfl
    cases bool_is e
    simp only [Tree.All, Tree.upN, Tree.knP] at h
    exact call_int_bool (P.int S (fun _ _ e => e) h)
  · simp only [Tree.All, Tree.upN, Tree.knP] at h
theorem spec_len : CallSpec c k (.builtin "len") dLen := by
  intro A φ s pn us vs K Q E R S i h P
  unfold dLen at h
  split at h
  · obtain ⟨v, rfl, e⟩ := one_arg i rfl
    obtain ⟨a, ws, rfl, hl, hz, el⟩ := list_is S e
    simp only [Tree.All, Tree.upN, Tree.knP] at h
    have e1 := el.length
    simp only [Array.length_toList] at e1
    rw [e1] at h
    exact call_len_list hl (by rw [sizeLine_is] at hz; omega) (P.int S (fun _ _ e => e) h)
  · simp only [Tree.All, Tree.upN, Tree.knP] at h
theorem spec_sum : CallSpec c k (.builtin "sum") dSum := by
  intro A φ s pn us vs K Q E R S i h P
  unfold dSum at h
  split at h
  · split at h
    · rename_i ns hn
      obtain ⟨v, rfl, e⟩ := one_arg i rfl
      obtain ⟨a, ws, rfl, hl, hz, el⟩ := list_is S e
      obtain ⟨xs, e1, e2⟩ := ints_items (ints_are el hn)
      have e3 : ws = intItems xs := Array.toList_inj.mp e1
      subst e3
      simp only [Tree.All, Tree.upN, Tree.knP] at h
      refine sum_intListG R.handled hl fun h' tk t' hk => ?_
      have e4 : preSum (numAt xs) xs.size = ns.sum := by
        have hf : numAt xs = fun i => (ns[i]?).getD 0 := funext fun i => by rw [num_at, e2]
        have hl' : xs.size = ns.length := by rw [← e2]; simp
        rw [hf, hl', pre_sum ns _ (Nat.le_refl _), List.take_length]
      rw [e4]
      exact P.int S hk h
    · simp only [Tree.All, Tree.upN, Tree.knP] at h
  · simp only [Tree.All, Tree.upN, Tree.knP] at h
theorem spec_abs : CallSpec c k (.builtin "abs") dAbs := by
  intro A φ s pn us vs K Q E R S i h P
  unfold dAbs at h
  split at h
  · obtain ⟨v, rfl, e⟩ := one_arg i rfl
    obtain ⟨t, rfl⟩ := int_is e
    simp only [Tree.All, Tree.upN, Tree.knP] at h
    exact call_abs_int fun u tk => P.int S (fun _ _ e => e) h
  · simp only [Tree.All, Tree.upN, Tree.knP] at h

theorem best_le (f : Nat → Int) : ∀ k, argBest (fun i j => decide (f i < f j)) k ≤ k ∧ ∀ j, j ≤ k → f (argBest (fun i j => decide (f i < f j)) k) ≤ f j
  | 0 => ⟨Nat.le_refl _, fun j hj => by
    have e : j = 0 := Nat.le_zero.mp hj
    subst e
    exact Int.le_refl _⟩
  | k + 1 => by
    obtain ⟨h1, h2⟩ := best_le f k
    rw [argBest]
    by_cases h : f (k + 1) < f (argBest (fun i j => decide (f i < f j)) k)
    · rw [if_pos (by simpa using h)]
      refine ⟨Nat.le_refl _, fun j hj => ?_⟩
      by_cases hj' : j = k + 1
      · subst hj'; exact Int.le_refl _
      · have := h2 j (by omega); omega
    · rw [if_neg (by simpa using h)]
      refine ⟨by omega, fun j hj => ?_⟩
      by_cases hj' : j = k + 1
      · subst hj'; omega
      · exact h2 j (by omega)
theorem best_ge (f : Nat → Int) : ∀ k, argBest (fun i j => decide (f i > f j)) k ≤ k ∧ ∀ j, j ≤ k → f j ≤ f (argBest (fun i j => decide (f i > f j)) k)
  | 0 => ⟨Nat.le_refl _, fun j hj => by
    have e : j = 0 := Nat.le_zero.mp hj
    subst e
    exact Int.le_refl _⟩
  | k + 1 => by
    obtain ⟨h1, h2⟩ := best_ge f k
    rw [argBest]
    by_cases h : f (k + 1) > f (argBest (fun i j => decide (f i > f j)) k)
    · rw [if_pos (by simpa using h)]
      refine ⟨Nat.le_refl _, fun j hj => ?_⟩
      by_cases hj' : j = k + 1
      · subst hj'; exact Int.le_refl _
      · have := h2 j (by omega); omega
    · rw [if_neg (by simpa using h)]
      refine ⟨by omega, fun j hj => ?_⟩
      by_cases hj' : j = k + 1
      · subst hj'; omega
      · exact h2 j (by omega)

theorem foldl_min (ns : List Int) : ∀ x : Int, (ns.foldl min x = x ∨ ns.foldl min x ∈ ns) ∧ ns.foldl min x ≤ x ∧ ∀ y ∈ ns, ns.foldl min x ≤ y := by
  induction ns with
  | nil => intro x; simp
  | cons a r ih =>
    intro x
    obtain ⟨h1, h2, h3⟩ := ih (min x a)
    simp only [List.foldl_cons]
    refine ⟨?_, by omega, fun y hy => ?_⟩
    · rcases h1 with h1 | h1
      · rw [h1]
        rcases Int.le_total x a with q | q
        · left; omega
        · right; rw [Int.min_eq_right q]; simp
      · right; simp [h1]
    · rcases List.mem_cons.mp hy with rfl | hy
      · omega
      · exact h3 y hy
theorem foldl_max (ns : List Int) : ∀ x : Int, (ns.foldl max x = x ∨ ns.foldl max x ∈ ns) ∧ x ≤ ns.foldl max x ∧ ∀ y ∈ ns, y ≤ ns.foldl max x := by
  induction ns with
  | nil => intro x; simp
  | cons a r ih =>
    intro x
    obtain ⟨h1, h2, h3⟩ := ih (max x a)
    simp only [List.foldl_cons]
    refine ⟨?_, by omega, fun y hy => ?_⟩
    · rcases h1 with h1 | h1
      · rw [h1]
        rcases Int.le_total x a with q | q
        · right; rw [Int.max_eq_right q]; simp
        · left; omega
      · right; simp [h1]
    · rcases List.mem_cons.mp hy with rfl | hy
      · omega
      · exact h3 y hy
theorem leastOf_is {ns : List Int} {v : Int} (hm : v ∈ ns) (hv : ∀ y ∈ ns, v ≤ y) : leastOf ns = v := by
  cases ns with
  | nil => cases hm
  | cons a r =>
    obtain ⟨h1, h2, h3⟩ := foldl_min r a
    show r.foldl min a = v
    have h4 : r.foldl min a ≤ v := by
      rcases List.mem_cons.mp hm with rfl | hm
      · exact h2
      · exact h3 v hm
    have h5 : v ≤ r.foldl min a := by
      rcases h1 with h1 | h1
      · rw [h1]; exact hv a (by simp)
      · exact hv _ (by simp [h1])
    omega
theorem mostOf_is {ns : List Int} {v : Int} (hm : v ∈ ns) (hv : ∀ y ∈ ns, y ≤ v) : mostOf ns = v := by
  cases ns with
  | nil => cases hm
  | cons a r =>
    obtain ⟨h1, h2, h3⟩ := foldl_max r a
    show r.foldl max a = v
    have h4 : v ≤ r.foldl max a := by
      rcases List.mem_cons.mp hm with rfl | hm
      · exact h2
      · exact h3 v hm
    have h5 : r.foldl max a ≤ v := by
      rcases h1 with h1 | h1
      · rw [h1]; exact hv a (by simp)
      · exact hv _ (by simp [h1])
    omega

theorem spec_min : CallSpec c k (.builtin "min") dMin := by
  intro A φ s pn us vs K Q E R S i h P
  unfold dMin at h
  split at h
  · rename_i a b
    obtain ⟨v, v', rfl, e, e'⟩ := two_args i rfl
    obtain ⟨t, rfl⟩ := int_is e
    obtain ⟨t', rfl⟩ := int_is e'
    simp only [Tree.All, Tree.upN, Tree.knP] at h
    refine min_two_ints R.handled fun h' tk hk => ?_
    by_cases q : b < a
    · rw [if_pos q]; rw [Int.min_eq_right (by omega)] at h; exact P.int S hk h
    · rw [if_neg q]; rw [Int.min_eq_left (by omega)] at h; exact P.int S hk h
  · split at h
    · rename_i us' n ns hn
      obtain ⟨v, rfl, e⟩ := one_arg i rfl
      obtain ⟨a, ws, rfl, hl, hz, el⟩ := list_is S e
      obtain ⟨xs, e1, e2⟩ := ints_items (ints_are el hn)
      have e3 : ws = intItems xs := Array.toList_inj.mp e1
      subst e3
      simp only [Tree.All, Tree.upN, Tree.knP] at h
      have hl' : xs.size = (n :: ns).length := by rw [← e2]; simp
      have hpos : 0 < xs.size := by rw [hl']; simp
      refine min_intList R.handled hl hpos fun v h' tk hv hk => ?_
      obtain ⟨t, rfl⟩ := intItems_at hv
      obtain ⟨b1, b2⟩ := best_le (numAt xs) (xs.size - 1)
      generalize argBest (fun i j => decide (numAt xs i < numAt xs j)) (xs.size - 1) = m at b1 b2 hv ⊢
      have hm : (n :: ns)[m]? = some (numAt xs m) := by
        rw [num_at, e2]
        rw [List.getElem?_eq_getElem (by omega)]; rfl
      have : leastOf (n :: ns) = numAt xs m := leastOf_is (List.mem_of_getElem? hm) fun y hy => by
        obtain ⟨j, hj, e⟩ := List.getElem_of_mem hy
        have := b2 j (by omega)
        have h4 : numAt xs j = y := by rw [num_at, e2, List.getElem?_eq_getElem hj, e]; rfl
        rw [← h4]; exact this
      rw [this] at h
      exact P.int S hk h
    · simp only [Tree.All, Tree.upN, Tree.knP] at h
  · simp only [Tree.All, Tree.upN, Tree.knP] at h
theorem spec_max : CallSpec c k (.builtin "max") dMax := by
  intro A φ s pn us vs K Q E R S i h P
  unfold dMax at h
  split at h
  · rename_i a b
    obtain ⟨v, v', rfl, e, e'⟩ := two_args i rfl
    obtain ⟨t, rfl⟩ := int_is e
    obtain ⟨t', rfl⟩ := int_is e'
    simp only [Tree.All, Tree.upN, Tree.knP] at h
    refine max_two_ints R.handled fun h' tk hk => ?_
    by_cases q : b > a
    · rw [if_pos q]; rw [Int.max_eq_right (by omega)] at h; exact P.int S hk h
    · rw [if_neg q]; rw [Int.max_eq_left (by omega)] at h; exact P.int S hk h
  · split at h
    · rename_i us' n ns hn
      obtain ⟨v, rfl, e⟩ := one_arg i rfl
      obtain ⟨a, ws, rfl, hl, hz, el⟩ := list_is S e
      obtain ⟨xs, e1, e2⟩ := ints_items (ints_are el hn)
      have e3 : ws = intItems xs := Array.toList_inj.mp e1
      subst e3
      simp only [Tree.All, Tree.upN, Tree.knP] at h
      have hl' : xs.size = (n :: ns).length := by rw [← e2]; simp
      have hpos : 0 < xs.size := by rw [hl']; simp
      refine max_intList R.handled hl hpos fun v h' tk hv hk => ?_
      obtain ⟨t, rfl⟩ := intItems_at hv
      obtain ⟨b1, b2⟩ := best_ge (numAt xs) (xs.size - 1)
      generalize argBest (fun i j => decide (numAt xs i > numAt xs j)) (xs.size - 1) = m at b1 b2 hv ⊢
      have hm : (n :: ns)[m]? = some (numAt xs m) := by
        rw [num_at, e2]
        rw [List.getElem?_eq_getElem (by omega)]; rfl
      have : mostOf (n :: ns) = numAt xs m := mostOf_is (List.mem_of_getElem? hm) fun y hy => by
        obtain ⟨j, hj, e⟩ := List.getElem_of_mem hy
        have := b2 j (by omega)
        have h4 : numAt xs j = y := by rw [num_at, e2, List.getElem?_eq_getElem hj, e]; rfl
        rw [← h4]; exact this
      rw [this] at h
      exact P.int S hk h
    · simp only [Tree.All, Tree.upN, Tree.knP] at h
  · simp only [Tree.All, Tree.upN, Tree.knP] at h
theorem spec_range : CallSpec c k (.type "range") dRange := by
  intro A φ s pn us vs K Q E R S i h P
  unfold dRange at h
  have fin : ∀ {a b : Int} {t u z : Tok} {tk : Nat}, K pn (.rng a b) → Q (.ref s.heap.objs.size) { s with heap := s.heap.push { cls := .type "range", data := .fields #[.int a t, .int b u, .int 1 z] }, toks := tk } := fun {a b t u z tk} h => by
    obtain ⟨φ', e1, e2, e3⟩ := S.one (h' := s.heap.push { cls := .type "range", data := .fields #[.int a t, .int b u, .int 1 z] }) (tk := tk) push_keeps (Heap.get?_push_size _ rfl) (heap_fresh _)
    exact P _ _ φ' _ pn h e2 e3 (by simp only [Is]; exact ⟨_, t, u, z, rfl, e1⟩)
  split at h
  · obtain ⟨v, rfl, e⟩ := one_arg i rfl
    obtain ⟨t, rfl⟩ := int_is e
    simp only [Tree.All, Tree.upN, Tree.knP] at h
    exact call_range_1 (fin h)
  · obtain ⟨v, v', rfl, e, e'⟩ := two_args i rfl
    obtain ⟨t, rfl⟩ := int_is e
    obtain ⟨t', rfl⟩ := int_is e'
    simp only [Tree.All, Tree.upN, Tree.knP] at h
    exact call_range_2 (fin h)
  · simp only [Tree.All, Tree.upN, Tree.knP] at h

theorem bools_get : ∀ {us : List V} {vs : List Value} {bs : List Bool}, IsL c φ us vs → boolsOf us = some bs → vs.length = bs.length ∧ ∀ (i : Nat) (v : Value), vs[i]? = some v → ∃ b : Bool, bs[i]? = some b ∧ v = Value.bool b
  | [], [], bs, _, e => by simp only [boolsOf, Option.some.injEq] at e; subst e; simp
  | .bool b :: us, v :: vs, bs, d, e => by
    simp only [boolsOf, Option.map_eq_some_iff] at e
    obtain ⟨ms, e1, rfl⟩ := e
    cases bool_is d.1
    obtain ⟨h1, h2⟩ := bools_get d.2 e1
    refine ⟨by simp [h1], fun i v h => ?_⟩
    cases i with
    | zero => simp at h; exact ⟨b, rfl, h.symm⟩
    | succ i => exact h2 i v h
  | .none :: _, _, _, _, e => by simp [boolsOf] at e
  | .int _ :: _, _, _, _, e => by simp [boolsOf] at e
  | .list _ :: _, _, _, _, e => by simp [boolsOf] at e
  | .tup _ :: _, _, _, _, e => by simp [boolsOf] at e
  | .rng _ _ :: _, _, _, _, e => by simp [boolsOf] at e
  | .tnum _ _ :: _, _, _, _, e => by simp [boolsOf] at e
  | .pen :: _, _, _, _, e => by simp [boolsOf] at e
  | [], _ :: _, _, d, _ => by simp only [IsL] at d
  | .bool _ :: _, [], _, d, _ => by simp only [IsL] at d
theorem all_range (bs : List Bool) : ((List.range bs.length).all fun i => (bs[i]?).getD true) = bs.all id := by
  rw [Bool.eq_iff_iff]
  simp only [List.all_eq_true, List.mem_range, id_eq]
  constructor
  · intro h x hx
    obtain ⟨j, hj, e⟩ := List.getElem_of_mem hx
    have := h j hj
    rw [List.getElem?_eq_getElem hj, e] at this
    exact this
  · intro h i hi
    rw [List.getElem?_eq_getElem hi]
    exact h _ (List.getElem_mem hi)
theorem spec_all : CallSpec c k (.builtin "all") dAll := by
  intro A φ s pn us vs K Q E R S i h P
  unfold dAll at h
  split at h
  · split at h
    · rename_i bs hb
      obtain ⟨v, rfl, e⟩ := one_arg i rfl
      obtain ⟨l, ws, rfl, hl, hz, el⟩ := list_is S e
      simp only [Tree.All, Tree.upN, Tree.knP] at h
      obtain ⟨q1, q2⟩ := bools_get el hb
      have hlt : l < s.heap.objs.size := by obtain ⟨_, e, _⟩ := hl; exact Heap.lt_size e
      refine call_all_walk (wpAny_pyIter_list hl ?_)
      refine ⟨s.heap.objs.size, [s.heap.objs.size, l], [s.heap.objs.size], ws.size, _, _, fun i => (bs[i]?).getD true, rfl, Walks.list (A := A.in1) R.handled _ l (Nat.ne_of_lt hlt) ws,
        ⟨⟨_, Heap.get?_push_size _ rfl, rfl, rfl⟩, hl.push _⟩, fun i v s' Q' E' hP hQ => ?_, fun h' tk hk => ?_⟩
      · obtain ⟨b, e, rfl⟩ := q2 i v (by rw [Array.getElem?_toList]; exact hP)
        simp only [e, Option.getD_some] at hQ
        exact wpAny_truthy_bool hQ
      · have e1 : ws.size = bs.length := by rw [← q1, Array.length_toList]
        rw [e1, all_range]
        refine P.bool S (fun a o e => hk a o (fun q => ?_) (push_keeps _ _ e)) h
        rw [List.mem_singleton] at q
        rw [q] at e
        exact absurd (Heap.lt_size e) (Nat.lt_irrefl _)
    · simp only [Tree.All, Tree.upN, Tree.knP] at h
  · simp only [Tree.All, Tree.upN, Tree.knP] at h
end
end Mine

set_option autoImplicit false
namespace Mine
open PySem PySem.W PySem.Calls PyProof.Rows PyProof
set_option maxRecDepth 100000

section
variable {c : Cx} {A : Around} {s : Shared} {φ : Fz} {pn : Pn} {k : Nat} {E : Value → Shared → Prop}

theorem perm_sorted_eq : ∀ {xs ys : List Int}, xs.Perm ys → xs.Pairwise (· ≤ ·) → ys.Pairwise (· ≤ ·) → xs = ys
  | [], ys, h, _, _ => (List.nil_perm.mp h).symm
  | x :: xs, [], h, _, _ => absurd h.length_eq (by simp)
  | x :: xs, y :: ys, h, hx, hy => by
    obtain ⟨h1, h2⟩ := List.pairwise_cons.mp hx
    obtain ⟨h3, h4⟩ := List.pairwise_cons.mp hy
    have e : x = y := by
      have a1 : x ≤ y := by
        rcases List.mem_cons.mp (h.symm.subset (List.mem_cons_self (a := y) (l := ys))) with q | q
        · omega
        · exact h1 y q
      have a2 : y ≤ x := by
        rcases List.mem_cons.mp (h.subset (List.mem_cons_self (a := x) (l := xs))) with q | q
        · omega
        · exact h3 x q
      omega
    subst e
    rw [perm_sorted_eq (List.Perm.cons_inv h) h2 h4]

theorem isL_of_ints : ∀ {vs : List Value} {ns : List Int}, IntsAre vs ns → IsL c φ (ns.map .int) vs
  | [], _, .nil => trivial
  | _ :: _, _, .cons n t h => ⟨is_int, isL_of_ints h⟩
theorem ints_len {vs : List Value} {ns : List Int} (h : IntsAre vs ns) : vs.length = ns.length := by
  induction h with
  | nil => rfl
  | cons n t _ ih => simp [ih]
theorem spec_sorted : CallSpec c k (.builtin "sorted") dSorted := by
  intro A φ s pn us vs K Q E R S i h P
  unfold dSorted at h
  split at h
  · split at h
    · rename_i ns hn
      obtain ⟨h0, h⟩ := guard_all h
      simp only [Tree.All, Tree.upN, Tree.knP] at h
      have h0 := of_decide_eq_true h0
      obtain ⟨v, rfl, e⟩ := one_arg i rfl
      obtain ⟨l, ws, rfl, hl, hz, el⟩ := list_is S e
      have hI := ints_are el hn
      have hlen : ws.toList.length = ns.length := ints_len hI
      refine sorted_ints (vs := ws.toList) (by simpa using hl) hI (by omega) fun out ns' hO hp hs => ?_
      obtain ⟨e0, he⟩ := sortedAll_at s.heap ws.toList out
      have hn' : ns' = ns.mergeSort fun a b => decide (a ≤ b) := by
        refine perm_sorted_eq (hp.trans (List.mergeSort_perm ns _).symm) hs ?_
        have := List.pairwise_mergeSort (le := fun a b : Int => decide (a ≤ b)) (by intro a b d; simp; omega) (by intro a b; simp; omega) ns
        simpa using this
      rw [← hn'] at h
      have hlen' : out.toList.length = ns'.length := ints_len hO
      have hl2 := hp.length_eq
      refine P.newList S (tk := s.toks) (fun a o e => sortedAll_old e) he rfl rfl (not_live (le_add1 (by omega))) ?_ h (isL_of_ints hO)
      rw [← Array.length_toList, sizeLine_is]; omega
    · simp only [Tree.All, Tree.upN, Tree.knP] at h
  · simp only [Tree.All, Tree.upN, Tree.knP] at h

section
variable {r : Addr} {a b : Int} {t u z : Tok} {n : Nat}
/-- a list grows by what an iterator over a range gives -/
theorem extend_iter {R : Result → Shared → Prop} {io : Obj} {St : Nat → Heap → Prop} (hr : IsRange s.heap r a b 1 t u z) (hn : Builtin.Range.rangeSize a b 1 = n) (hlen : n ≤ 2 ^ 24) (L : Addr) (res : Value) (c₀ : Nat) (hL : s.heap.get? L = some { cls := .type "list", data := .seq #[] c₀ })
    (hiter : ∀ {Q : Value → Shared → Prop} {E : Value → Shared → Prop}, Q (.ref s.heap.objs.size) { s with heap := s.heap.push io } → wpAny (model c.prog c.w) A.in1 (pyIter (.ref r)) Q E s)
    (W : Walks c.prog c.w A.in1 s.heap.objs.size [s.heap.objs.size] [s.heap.objs.size] n (fun i v => ∃ t, v = .int (a + i * 1) t) St)
    (st0 : ∀ h, h.get? s.heap.objs.size = some io → St 0 h) (hfr : io.isFreed = false)
    (hR : ∀ h' tk acc' c', (∀ b o, b ≠ L → s.heap.get? b = some o → h'.get? b = some o) → h'.get? L = some { cls := .type "list", dict := none, data := .seq acc' c', slots := #[] } →
      ItemsOf (fun i v => ∃ t, v = .int (a + i * 1) t) acc' n → R (.ok (.ret res)) { s with heap := h', toks := tk }) :
    wpAny (model c.prog c.w) A.in1 (Builtin.List.listExtendWith (.ref L) (.ref r) res)
      (fun fin s' => match fin with | .done f => R (.ok f) s' | .again c' => c'.quiet = true ∧ codeAny (model c.prog c.w) A c' R s') (fun e s' => R (.error e) s') s := by
  have hLr : L ≠ r := fun e => by rw [e, hr] at hL; simp at hL
  have hLI : L ≠ s.heap.objs.size := Nat.ne_of_lt (Heap.lt_size hL)
  have hLf : L ∉ [s.heap.objs.size] := fun hm => hLI (List.mem_singleton.mp hm)
  have go : ∀ (h : Heap) (c₁ tk : Nat), h.get? s.heap.objs.size = some io → (∀ b o, b ≠ L → s.heap.get? b = some o → h.get? b = some o) →
      h.get? L = some { cls := .type "list", data := .seq #[] c₁ } → codeAny (model c.prog c.w) A (.builtin "list.extend.loop" ⟨[.ref L, .ref s.heap.objs.size, res], []⟩) R { s with heap := h, toks := tk } := by
    intro h c₁ tk hit hk h1
    refine codeAny_extend_loopS W.toS (by rw [sizeLine_eq]; omega) L hLf res n 0 _ #[] c₁ rfl (Nat.zero_le _) (st0 _ hit) h1 (ItemsOf.nil _) fun s' acc' c' hm hS' hacc => ?_
    rw [Moved.eq_with hm]
    refine hR s'.heap s'.toks acc' c' (fun b o hb e => hm.heap b o (fun hmem => ?_) (hk b o hb e)) hS' hacc
    rcases List.mem_cons.mp hmem with q | hmem
    · exact hb q
    · exact absurd (Heap.lt_size e) (by rw [List.mem_singleton.mp hmem]; exact Nat.lt_irrefl _)
  unfold Builtin.List.listExtendWith
  refine wpAny_bind (wpAny_typeOf (T := "range") ⟨_, hr, rfl⟩ ?_)
  have q1 : Builtin.List.listSameRef (.ref L) (.ref r) = false := by simp [Builtin.List.listSameRef, hLr]
  have q2 : (Value.type "range" == Value.type "list") = false := by decide
  have q3 : (Value.type "range" == Value.type "tuple") = false := by decide
  simp only [q1, q2, q3, Bool.or_false, Bool.false_eq_true, if_false]
  refine wpAny_bind (hiter ?_)
  have hI : (s.heap.push io).get? s.heap.objs.size = some io := Heap.get?_push_size _ hfr
  refine wpAny_bind (wpAny_holding (wpAny_hint_range (n := n) (Heap.get?_push_of_some _ hr) hn hlen ?_))
  have h1 := Heap.get?_push_of_some io hL
  refine wpAny_ite_split (fun _ => ?_) (fun _ => wpAny_pure ⟨plainId_quiet F.plain_extend_loop _, go _ c₀ _ hI (fun b o _ e => Heap.get?_push_of_some _ e) h1⟩)
  refine wpAny_bind (wpAny_rule ?_)
  refine wpAny_bind ?_
  show wpAny _ _ (updateSeq L (·.push .none) >>= fun _ => updateSeq L (·.pop)) _ _ _
  refine wpAny_bind (wpAny_updateSeq h1 rfl ?_)
  have h2 := Heap.get?_update_self (Obj.mapSeq (·.push Value.none)) h1 rfl
  refine wpAny_updateSeq (hz := by seq_fits) h2 rfl ?_
  have h3 := Heap.get?_update_self (Obj.mapSeq (·.pop)) h2 rfl
  refine wpAny_pure ⟨plainId_quiet F.plain_extend_loop _, go _ _ _ ?_ (fun b o hb e => ?_) h3⟩
  · exact (Heap.get?_update_other _ _ hLI).trans ((Heap.get?_update_other _ _ hLI).trans hI)
  · exact (Heap.get?_update_other _ _ (Ne.symm hb)).trans ((Heap.get?_update_other _ _ (Ne.symm hb)).trans (Heap.get?_push_of_some _ e))

theorem extend_range {R : Result → Shared → Prop} (hh : A.handled = none) (hr : IsRange s.heap r a b 1 t u z) (hn : Builtin.Range.rangeSize a b 1 = n) (hlen : n ≤ 2 ^ 24) (L : Addr) (res : Value) (c₀ : Nat) (hL : s.heap.get? L = some { cls := .type "list", data := .seq #[] c₀ })
    (hR : ∀ h' tk acc' c', (∀ b o, b ≠ L → s.heap.get? b = some o → h'.get? b = some o) → h'.get? L = some { cls := .type "list", dict := none, data := .seq acc' c', slots := #[] } →
      ItemsOf (fun i v => ∃ t, v = .int (a + i * 1) t) acc' n → R (.ok (.ret res)) { s with heap := h', toks := tk }) :
    wpAny (model c.prog c.w) A.in1 (Builtin.List.listExtendWith (.ref L) (.ref r) res)
      (fun fin s' => match fin with | .done f => R (.ok f) s' | .again c' => c'.quiet = true ∧ codeAny (model c.prog c.w) A c' R s') (fun e s' => R (.error e) s') s := by
  cases hsm : Builtin.Range.small a b 1 with
  | true =>
    refine extend_iter (io := { cls := .type "range_iterator", data := .fields #[rawInt a, rawInt (Builtin.Range.rangeSize a b 1), rawInt 1] }) hr hn hlen L res c₀ hL (fun h => wpAny_pyIter_range hr hsm h) (Walks.range (A := A.in1) hh s.heap.objs.size a 1 n) (fun h e => ?_) rfl hR
    show IsRangeIter _ _ _ _ _
    rw [hn] at e; simpa using e
  | false =>
    refine extend_iter (io := { cls := .type "longrange_iterator", data := .fields #[rawInt a, rawInt (Builtin.Range.rangeSize a b 1), rawInt 1] }) hr hn hlen L res c₀ hL (fun h => wpAny_pyIter_longrange hr hsm h) (Walks.longrange (A := A.in1) hh s.heap.objs.size a 1 n) (fun h e => ?_) rfl hR
    show IsLongIter _ _ _ _ _
    rw [hn] at e; simpa [IsLongIter] using e

theorem call_list_rangeX {Q : Value → Shared → Prop} (hh : A.handled = none) (hr : IsRange s.heap r a b 1 t u z) (hn : Builtin.Range.rangeSize a b 1 = n) (hlen : n ≤ 2 ^ 24)
    (hQ : ∀ h' tk acc' c', (∀ b o, s.heap.get? b = some o → h'.get? b = some o) →
      h'.get? s.heap.objs.size = some { cls := .type "list", dict := none, data := .seq acc' c', slots := #[] } → ItemsOf (fun i v => ∃ t, v = .int (a + i * 1) t) acc' n → Q (.ref s.heap.objs.size) { s with heap := h', toks := tk }) :
    wpAny (model c.prog c.w) A (call (.type "list") [.ref r]) Q E s := by
  refine callType_codes (Q₁ := fun obj s₁ => obj = .ref s.heap.objs.size ∧ s₁ = { s with heap := s.heap.push { cls := .type "list", data := .seq #[] } }) F.called_list (F.typeCall_list_1 _) F.entry_list_init
    (code_list_new _ ⟨rfl, rfl⟩) fun obj s₁ h₁ => ?_
  obtain ⟨rfl, rfl⟩ := h₁
  have hS : (s.heap.push { cls := .type "list", data := .seq #[] }).get? s.heap.objs.size = some { cls := .type "list", data := .seq #[] } := Heap.get?_push_size _ rfl
  refine ⟨⟨_, hS, rfl⟩, F.args_list_init_2 _ _, ?_⟩
  have hr' : IsRange (s.heap.push { cls := .type "list", data := .seq #[] }) r a b 1 t u z := Heap.get?_push_of_some _ hr
  have hSr : s.heap.objs.size ≠ r := fun e => by rw [e] at hS; rw [hr'] at hS; simp at hS
  show wpAny _ _ (do let old ← Builtin.List.listItems (.ref s.heap.objs.size); Builtin.List.listUpdate (.ref s.heap.objs.size) (fun _ => #[]); letGo old.toList.reverse; Builtin.List.listExtendWith (.ref s.heap.objs.size) (.ref r) .none) _ _ _
  refine wpAny_bind ?_
  unfold Builtin.List.listItems
  refine wpAny_bind (wpAny_seqItems hS rfl (wpAny_pure ?_))
  show wpAny _ _ (updateSeq s.heap.objs.size (fun _ => #[]) >>= fun _ => letGo (#[] : Array Value).toList.reverse >>= fun _ => Builtin.List.listExtendWith (.ref s.heap.objs.size) (.ref r) .none) _ _ _
  refine wpAny_bind (wpAny_updateSeq hS rfl ?_)
  have h2 := Heap.get?_update_self (Obj.mapSeq (fun _ => (#[] : Array Value))) hS rfl
  have oth : ∀ b o, b ≠ s.heap.objs.size → (s.heap.push { cls := .type "list", data := .seq #[] }).get? b = some o → ((s.heap.push { cls := .type "list", data := .seq #[] }).update s.heap.objs.size (Obj.mapSeq (fun _ => (#[] : Array Value)))).get? b = some o :=
    fun b o hb e => (Heap.get?_update_other _ _ (Ne.symm hb)).trans e
  refine wpAny_bind (wpAny_letGo ?_)
  refine extend_range (A := A.in1) hh (oth r _ (Ne.symm hSr) hr') hn hlen s.heap.objs.size .none _ h2 fun h' tk acc' c' hk hS' hacc => ?_
  exact ⟨rfl, hQ h' tk acc' c' (fun b o e => hk b o (Nat.ne_of_lt (Heap.lt_size e)) (oth b o (Nat.ne_of_lt (Heap.lt_size e)) (Heap.get?_push_of_some _ e))) hS' hacc⟩
end

theorem spec_list : CallSpec c k (.type "list") dList := by
  intro A φ s pn us vs K Q E R S i h P
  unfold dList at h
  split at h
  · rename_i a b
    obtain ⟨h0, h⟩ := guard_all h
    have h0 := of_decide_eq_true h0
    simp only [Tree.All, Tree.upN, Tree.knP] at h
    obtain ⟨v, rfl, e⟩ := one_arg i rfl
    simp only [Is] at e
    obtain ⟨r, t, u, z, rfl, e2⟩ := e
    have hr : IsRange s.heap r a b 1 t u z := S.sub _ _ e2
    have hn : Builtin.Range.rangeSize a b 1 = ((b - a).toNat : Int) := by rw [rangeSize_one]; split <;> omega
    refine call_list_rangeX (A := A) R.handled hr hn (by omega) fun h' tk acc' c' hk hl' hacc => ?_
    have hsz : acc'.size = (b - a).toNat := hacc.1
    refine P.newList S (tk := tk) hk hl' rfl rfl (heap_fresh _) (by rw [hsz, sizeLine_is]; omega) h ?_
    have key : ∀ (l : List Value) (o : Nat), (∀ (j : Nat) (v : Value), l[j]? = some v → ∃ t, v = Value.int (a + ((o + j : Nat) : Int)) t) → IsL c φ ((List.range' o l.length).map fun i : Nat => V.int (a + (i : Int))) l := by
      intro l
      induction l with
      | nil => intro o _; simp [IsL]
      | cons v l ih =>
        intro o hv
        rw [List.length_cons, List.range'_succ, List.map_cons]
        refine ⟨?_, ih (o + 1) fun j w hw => ?_⟩
        · obtain ⟨t, rfl⟩ := hv 0 v rfl
          simp only [Is]; exact ⟨t, rfl⟩
        · obtain ⟨t, rfl⟩ := hv (j + 1) w (by simpa using hw)
          exact ⟨t, by congr 2; omega⟩
    have := key acc'.toList 0 fun j v hv => by
      rw [Array.getElem?_toList] at hv
      obtain ⟨t, rfl⟩ := hacc.2 j v hv
      exact ⟨t, by simp⟩
    rw [Array.length_toList, hsz] at this
    rw [List.range_eq_range']
    exact this
  · simp only [Tree.All, Tree.upN, Tree.knP] at h
end
end Mine

set_option autoImplicit false
namespace Mine
open PySem PySem.W PySem.Calls PyProof.Rows PyProof
set_option maxRecDepth 100000

/-- a def with plain parameters alone -/
structure PlainArgs (fd : FuncData) (names : List Str) : Prop where
  po : fd.params.posonlyargs = []
  ar : fd.params.args.map (·.arg) = names
  va : fd.params.vararg = none
  ko : fd.params.kwonlyargs = []
  kw : fd.params.kwarg = none

theorem lookup_zip : ∀ {ns : List Str} {vs : List Value} {n : Str}, ns.length ≤ vs.length → n ∈ ns → ((ns.zip vs).lookup n).isSome = true
  | [], _, _, _, h => by cases h
  | _ :: _, [], _, h, _ => by simp at h
  | a :: ns, v :: vs, n, hl, h => by
    rw [List.zip_cons_cons, List.lookup_cons]
    cases q : n == a with
    | true => rfl
    | false =>
      rcases List.mem_cons.mp h with rfl | h
      · simp at q
      · exact lookup_zip (by simpa using hl) h
theorem lookup_skip {a n : Str} {v : Value} {l : List (Str × Value)} (h : n ≠ a) : ((a, v) :: l).lookup n = l.lookup n := by
  rw [List.lookup_cons]
  have : (n == a) = false := by simpa using h
  rw [this]
theorem filter_zip : ∀ {ns : List Str} {vs : List Value} (pre : List (Str × Value)), ns.Nodup → ns.length = vs.length → (∀ n ∈ ns, ∀ q ∈ pre, q.1 ≠ n) → (ns.filterMap fun n => ((pre ++ ns.zip vs).lookup n).map (n, ·)) = ns.zip vs
  | [], _, _, _, _, _ => rfl
  | _ :: _, [], _, _, h, _ => by simp at h
  | a :: ns, v :: vs, pre, hd, hl, hp => by
    obtain ⟨h1, h2⟩ := List.nodup_cons.mp hd
    have hla : (pre ++ (a :: ns).zip (v :: vs)).lookup a = some v := by
      clear hd hl h1 h2
      induction pre with
      | nil => simp
      | cons q pre ih =>
        have hq : a ≠ q.1 := Ne.symm (hp a (by simp) q (by simp))
        rw [List.cons_append, show q = (q.1, q.2) from rfl, lookup_skip hq]
        exact ih fun n hn r hr => hp n hn r (by simp [hr])
    rw [List.filterMap_cons_some (b := (a, v)) (by rw [hla]; rfl), List.zip_cons_cons]
    have := filter_zip (vs := vs) (pre ++ [(a, v)]) h2 (by simpa using hl) fun n hn q hq => by
      rcases List.mem_append.mp hq with hq | hq
      · exact hp n (by simp [hn]) q hq
      · rw [List.mem_singleton.mp hq]; intro e; exact h1 (show a ∈ ns from (show a = n from e) ▸ hn)
    rw [List.append_assoc] at this
    exact congrArg ((a, v) :: ·) this

theorem forIn_yield {α β : Type} {g : α → β → β} {f : α → β → Sem (ForInStep β)} (hf : ∀ a b, f a b = pure (.yield (g a b))) : ∀ (l : List α) (b : β), forIn l b f = pure (l.foldl (fun b a => g a b) b)
  | [], _ => rfl
  | a :: l, b => by
    rw [List.forIn_cons, hf]
    exact forIn_yield hf l (g a b)
theorem wp_forIn {α β : Type} {M : Model} {A : Around} {Q : β → Shared → Prop} {E : Value → Shared → Prop} {s : Shared} (g : α → β → β) {f : α → β → Sem (ForInStep β)} {l : List α} {b : β} (hf : ∀ a b, f a b = pure (.yield (g a b))) (h : Q (l.foldl (fun b a => g a b) b) s) : wpAny M A (forIn l b f) Q E s := by
  rw [forIn_yield hf]; exact wpAny_pure h
noncomputable def addMiss (x : Str × Value) (r : List (Str × Value)) : List (Str × Value) := if (r.lookup x.1).isNone = true then r ++ [x] else r
noncomputable def lastOf (names : List Str) (ds : List Value) : List Value := ds.drop (ds.length - names.length)
noncomputable def slotsOf (names : List Str) (vs ds : List Value) : List (Str × Value) := ((names.drop (names.length - (lastOf names ds).length)).zip (lastOf names ds)).foldl (fun r x => addMiss x r) (names.zip vs)
noncomputable def missOf (names : List Str) (vs ds : List Value) : List Str := (names.take (names.length - (lastOf names ds).length)).filter fun n => ((names.zip vs).lookup n).isNone
/-- the walk through the binder, whatever the defaults -/
theorem binds_core {fd : FuncData} {names : List Str} (P : PlainArgs fd names) {vs : List Value} {s : Shared} {dv : Option (Array Value)} (hd : ∀ {M : Model} {A E} {Q : Option (Array Value) → Shared → Prop}, Q dv s → wpAny M A (seqItems? fd.defaults) Q E s)
    (hl : vs.length ≤ names.length) (hmiss : missOf names vs (dv.getD #[]).toList = []) : BindsTo s fd ⟨vs, []⟩ (names.filterMap fun n => ((slotsOf names vs (dv.getD #[]).toList).lookup n).map (n, ·)) := by
  intro M A E Q hQ
  obtain ⟨po, ar, va, ko, kw⟩ := P
  obtain ⟨_, _, ⟨_, _, _, _, _, _, _⟩, _, _, _, _, _, _, _, _, _, _, _, _⟩ := fd
  cases po; cases va; cases ko; cases kw; subst ar
  refine wpAny_bind (wpAny_pure (wpAny_bind (hd ?_)))
  dsimp only
  refine wpAny_ite_false (decide_eq_false fun e => absurd (of_decide_eq_true (Bool.and_eq_true_iff.mp e).1) (Nat.not_lt.mpr hl)) ?_
  refine wpAny_ite_false (decide_eq_false fun e => absurd e ((congrArg (fun l : List Str => (!l.isEmpty) = true) hmiss).symm ▸ Bool.false_ne_true)) ?_
  refine wpAny_bind (wp_forIn addMiss (fun a b => ?_) (wpAny_bind (wpAny_pure (wpAny_pure (Eq.mpr (congrArg (fun l => Q (List.filterMap _ l) s) (List.append_nil _)) hQ)))))
  obtain ⟨n, v⟩ := a
  dsimp only
  unfold addMiss
  split <;> rfl
theorem miss_none {names : List Str} {vs : List Value} {l : List Str} (h : ∀ n ∈ l, ((names.zip vs).lookup n).isSome = true) : (l.filter fun n => ((names.zip vs).lookup n).isNone) = [] :=
  List.filter_eq_nil_iff.mpr fun n q => by
    have := h n q
    cases e : (names.zip vs).lookup n with
    | none => rw [e] at this; exact no this
    | some x => exact Bool.false_ne_true
theorem binds_plain {fd : FuncData} {names : List Str} (P : PlainArgs fd names) (hn : names.Nodup) (hd : fd.defaults = .none) {vs : List Value} (hl : vs.length = names.length) (s : Shared) : BindsTo s fd ⟨vs, []⟩ (names.zip vs) := by
  have e : slotsOf names vs [] = names.zip vs := by
    unfold slotsOf
    rw [show lastOf names [] = [] from List.drop_nil, List.zip_nil_right]; rfl
  have h := filter_zip (vs := vs) [] hn hl.symm fun _ _ _ h => nomatch h
  have k := binds_core (dv := Option.none) (s := s) P (fun h => by rw [hd]; exact wpAny_pure h) (Nat.le_of_eq hl) (miss_none fun n h => lookup_zip (Nat.le_of_eq hl.symm) (List.mem_of_mem_take h))
  rw [show (Option.none.getD #[] : Array Value).toList = [] from rfl, e] at k
  exact h ▸ k
theorem last_one {names : List Str} {last : Str} {d : Value} : lastOf (names ++ [last]) [d] = [d] := by
  unfold lastOf
  rw [List.length_append, show [d].length - (names.length + [last].length) = 0 by simp]; rfl
theorem sub_one {names : List Str} {last : Str} {d : Value} : (names ++ [last]).length - [d].length = names.length := by
  rw [List.length_append]; rfl
/-- one default at the end -/
theorem binds_one {fd : FuncData} {names : List Str} {last : Str} (P : PlainArgs fd (names ++ [last])) {T : Addr} {o : Obj} {d : Value} {nn : Nat} (hd : fd.defaults = .ref T) {s : Shared} (ho : s.heap.get? T = some o) (hs : o.data = .seq #[d] nn) {vs : List Value} (hl : vs.length ≤ names.length + 1)
    (hm : ∀ n ∈ names, (((names ++ [last]).zip vs).lookup n).isSome = true) {r : List (Str × Value)} (hr : addMiss (last, d) ((names ++ [last]).zip vs) = r) : BindsTo s fd ⟨vs, []⟩ ((names ++ [last]).filterMap fun n => (r.lookup n).map (n, ·)) := by
  have e : slotsOf (names ++ [last]) vs [d] = r := by
    unfold slotsOf
    rw [last_one, sub_one, List.drop_left]; exact hr
  have k := binds_core (dv := some #[d]) (s := s) P (fun h => by rw [hd]; exact wpAny_seqItems ho hs h) (Nat.le_trans hl (Nat.le_of_eq (List.length_append (as := names) (bs := [last])).symm)) (by
    show missOf (names ++ [last]) vs [d] = []
    unfold missOf
    rw [last_one, sub_one, List.take_left]
    exact miss_none hm)
  exact e ▸ k
theorem binds_dflt {fd : FuncData} {names : List Str} {last : Str} (P : PlainArgs fd (names ++ [last])) (hn : (names ++ [last]).Nodup) {T : Addr} {o : Obj} {d : Value} {nn : Nat} (hd : fd.defaults = .ref T) {s : Shared} (ho : s.heap.get? T = some o) (hs : o.data = .seq #[d] nn) {vs : List Value} (hl : vs.length = names.length) : BindsTo s fd ⟨vs, []⟩ ((names ++ [last]).zip (vs ++ [d])) := by
  have hz : (names ++ [last]).zip vs = names.zip vs := by
    have := List.zip_append (l₁ := names) (l₂ := vs) (r₁ := [last]) (r₂ := []) hl.symm
    simpa using this
  have hzd : (names ++ [last]).zip (vs ++ [d]) = names.zip vs ++ [(last, d)] := List.zip_append hl.symm
  have hno : (names.zip vs).lookup last = Option.none := by
    cases q : (names.zip vs).lookup last with
    | none => rfl
    | some x => exact absurd (List.of_mem_zip (mem_of_lookup q)).1 fun h => (List.nodup_append.mp hn).2.2 _ h _ (List.mem_singleton.mpr rfl) rfl
  have h := filter_zip (vs := vs ++ [d]) [] hn (by rw [List.length_append, List.length_append, hl]; rfl) fun _ _ _ h => nomatch h
  exact h ▸ binds_one P hd ho hs (hl ▸ Nat.le_succ _) (fun n q => by rw [hz]; exact lookup_zip (Nat.le_of_eq hl.symm) q) (r := (names ++ [last]).zip (vs ++ [d])) (by
    rw [hz, hzd]
    show (if ((names.zip vs).lookup last).isNone = true then _ else _) = _
    rw [hno]; rfl)
theorem binds_full {fd : FuncData} {names : List Str} {last : Str} (P : PlainArgs fd (names ++ [last])) (hn : (names ++ [last]).Nodup) {T : Addr} {o : Obj} {d : Value} {nn : Nat} (hd : fd.defaults = .ref T) {s : Shared} (ho : s.heap.get? T = some o) (hs : o.data = .seq #[d] nn) {vs : List Value} (hl : vs.length = names.length + 1) : BindsTo s fd ⟨vs, []⟩ ((names ++ [last]).zip vs) := by
  have hl' : (names ++ [last]).length = vs.length := by rw [List.length_append, hl]; rfl
  have h := filter_zip (vs := vs) [] hn hl' fun _ _ _ h => nomatch h
  exact h ▸ binds_one P hd ho hs (Nat.le_of_eq hl) (fun n q => lookup_zip (Nat.le_of_eq hl') (List.mem_append_left _ q)) (r := (names ++ [last]).zip vs) (by
    have := lookup_zip (Nat.le_of_eq hl') (List.mem_append_right names (List.mem_singleton.mpr (rfl : last = last)))
    unfold addMiss
    rw [if_neg]
    intro e
    rw [Option.isNone_iff_eq_none.mp e] at this
    exact no this)

end Mine

set_option autoImplicit false
namespace Mine
open PySem PySem.W PySem.Calls PyProof.Rows PyProof

noncomputable def argsIn (fd : FuncData) (ps : List Nat) : Bool :=
  fd.params.posonlyargs.isEmpty && fd.params.vararg.isNone && fd.params.kwonlyargs.isEmpty && fd.params.kwarg.isNone && decide (fd.params.args.length = ps.length) && ((fd.params.args.zip ps).all fun p => strEq p.1.arg (nm p.2))
noncomputable def noDflt (fd : FuncData) : Bool := match fd.defaults with
  | .none => true
  | _ => false
noncomputable def intDflt (K : Frag) (fd : FuncData) (i : Int) : Bool := match fd.defaults with
  | .ref T => (match K.lookup T with
    | some ⟨_, _, .seq ⟨[.int j _]⟩ _, _⟩ => decide (j = i)
    | _ => false)
  | _ => false

theorem zip_names : ∀ {as : List Arg} {ps : List Nat}, as.length = ps.length → ((as.zip ps).all fun p => strEq p.1.arg (nm p.2)) = true → as.map (·.arg) = ps.map nm
  | [], [], _, _ => rfl
  | a :: as, p :: ps, hl, h => by
    simp only [List.zip_cons_cons, List.all_cons, Bool.and_eq_true] at h
    rw [List.map_cons, List.map_cons, eq_of_strEq h.1, zip_names (by simpa using hl) h.2]
  | [], _ :: _, hl, _ => by simp at hl
  | _ :: _, [], hl, _ => by simp at hl
theorem args_plain {fd : FuncData} {ps : List Nat} (h : argsIn fd ps = true) : PlainArgs fd (ps.map nm) := by
  simp only [argsIn, Bool.and_eq_true, decide_eq_true_eq, List.isEmpty_iff, Option.isNone_iff_eq_none] at h
  obtain ⟨⟨⟨⟨⟨h1, h2⟩, h3⟩, h4⟩, h5⟩, h6⟩ := h
  exact ⟨h1, zip_names h5 h6, h2, h3, h4⟩
theorem names_nodup : ∀ {ps : List Nat}, ps.Nodup → (∀ p ∈ ps, p < 56) → (ps.map nm).Nodup
  | [], _, _ => List.nodup_nil
  | p :: ps, hd, hl => by
    obtain ⟨h1, h2⟩ := List.nodup_cons.mp hd
    rw [List.map_cons, List.nodup_cons]
    refine ⟨fun h => ?_, names_nodup h2 fun q hq => hl q (by simp [hq])⟩
    obtain ⟨q, hq, e⟩ := List.mem_map.mp h
    exact h1 (nm_inj (hl q (by simp [hq])) (hl p (by simp)) e ▸ hq)

noncomputable def defOk (K : Frag) (k : Nat) (f : Addr) (ps g l : List Nat) (b : List S) : Bool := match fnIn K f with
  | some fd => chkF K k fd ps g l b && argsIn fd ps && noDflt fd
  | none => false
noncomputable def dfltOk (K : Frag) (k : Nat) (f : Addr) (ps : List Nat) (last : Nat) (i : Int) (g l : List Nat) (b : List S) : Bool := match fnIn K f with
  | some fd => chkF K k fd (ps ++ [last]) g l b && argsIn fd (ps ++ [last]) && intDflt K fd i
  | none => false

section
variable {c : Cx} {k n : Nat} {F : Nat → List V → Tree V} {G : Nat → Int}
theorem chkF_ps {K : Frag} {fd : FuncData} {ps g l : List Nat} {b : List S} (h : chkF K k fd ps g l b = true) : ps.Nodup ∧ ∀ p ∈ ps, p < 56 := by
  simp only [chkF, scopeOk, Bool.and_eq_true, List.all_eq_true] at h
  obtain ⟨⟨⟨⟨⟨_, hsc⟩, _⟩, _⟩, _⟩, _⟩ := h
  obtain ⟨⟨⟨⟨_, hl⟩, hps⟩, hnd⟩, _⟩ := hsc
  refine ⟨nodup_is hnd, fun p hp => ?_⟩
  have h1 : p ∈ l := by simpa using hps p hp
  exact Nat.le_of_ble_eq_true (hl p h1).1

theorem def_plain {f : Addr} {ps g l : List Nat} {b : List S} (hok : defOk c.K k f ps g l b = true) (FO : FunsOk c k F G) (n : Nat) (D : List V → Tree V)
    (hD : ∀ us pn K, (D us).All pn K → us.length = ps.length ∧ (runB F G n b (ps.zip us)).All pn (Weak K)) : CallSpec c (k + 1) (.ref f) D := by
  unfold defOk at hok
  split at hok
  · rename_i fd hfd
    simp only [Bool.and_eq_true] at hok
    obtain ⟨⟨h1, h2⟩, h3⟩ := hok
    obtain ⟨p1, p2⟩ := chkF_ps h1
    refine def_spec hfd h1 FO n D fun us pn K h => ?_
    obtain ⟨hl, hr⟩ := hD us pn K h
    refine ⟨[], [], fun s vs X hv => ?_, fun _ => trivial, by rw [List.append_nil]; exact hr⟩
    rw [List.append_nil]
    refine binds_plain (args_plain h2) (names_nodup p1 p2) ?_ (by rw [hv, hl, List.length_map]) s
    unfold noDflt at h3
    split at h3
    · assumption
    · cases h3
  · cases hok

theorem def_dflt {f : Addr} {ps g l : List Nat} {last : Nat} {i : Int} {b : List S} (hok : dfltOk c.K k f ps last i g l b = true) (FO : FunsOk c k F G) (n : Nat) (D : List V → Tree V)
    (hD : ∀ us pn K, (D us).All pn K → (us.length = ps.length + 1 ∧ (runB F G n b ((ps ++ [last]).zip us)).All pn (Weak K)) ∨ (us.length = ps.length ∧ (runB F G n b ((ps ++ [last]).zip (us ++ [.int i]))).All pn (Weak K))) : CallSpec c (k + 1) (.ref f) D := by
  unfold dfltOk at hok
  split at hok
  · rename_i fd hfd
    simp only [Bool.and_eq_true] at hok
    obtain ⟨⟨h1, h2⟩, h3⟩ := hok
    obtain ⟨p1, p2⟩ := chkF_ps h1
    have hnd := names_nodup p1 p2
    have hpa := args_plain h2
    rw [List.map_append, List.map_cons, List.map_nil] at hnd hpa
    unfold intDflt at h3
    split at h3
    · rename_i T hT
      split at h3
      · rename_i oc od j t nn sl hlk
        have e0 := of_decide_eq_true h3
        subst e0
        refine def_spec hfd h1 FO n D fun us pn K h => ?_
        rcases hD us pn K h with ⟨hl, hr⟩ | ⟨hl, hr⟩
        · refine ⟨[], [], fun s vs X hv => ?_, fun _ => trivial, by rw [List.append_nil]; exact hr⟩
          rw [List.append_nil, List.map_append, List.map_cons, List.map_nil]
          exact binds_full hpa hnd hT (X _ _ hlk) rfl (by rw [hv, hl, List.length_map])
        · refine ⟨[.int j], [.int j t], fun s vs X hv => ?_, fun _ => ⟨is_int, trivial⟩, hr⟩
          rw [List.map_append, List.map_cons, List.map_nil]
          exact binds_dflt hpa hnd hT (X _ _ hlk) rfl (by rw [hv, hl, List.length_map])
      · cases h3
    · cases h3
  · cases hok
end
end Mine

set_option autoImplicit false
namespace Mine
open PySem PySem.W PySem.Calls PyProof.Rows PyProof
set_option maxRecDepth 100000

noncomputable def setChk (a1 v1 : Str) (st : Stmt) : Bool := onSAssign (fun ts v _ => on1 (fun t => onAttribute (fun o a _ => onName (fun s _ => onName (fun s2 _ => strEq s (nm 8) && strEq a a1 && strEq s2 v1) v) o) t) ts) st
noncomputable def initBody (b : List Stmt) : Bool := on2 (fun s1 s2 => setChk (Str.ofString "value") (nm 12) s1 && setChk (Str.ofString "mask") (nm 13) s2) b
theorem set_inv {a1 v1 : Str} {st : Stmt} {M : Stmt → Prop} (h : setChk a1 v1 st = true) (k : ∀ p1 p2 p3 p4, M (.Assign [.Attribute (.Name (nm 8) p1) a1 p2] (.Name v1 p3) p4)) : M st :=
  inSAssign (M := M) (fun ts v p4 h => in1 (M := fun ts => M (.Assign ts v p4)) (fun t h => inAttribute (M := fun t => M (.Assign [t] v p4)) (fun o a p2 h => inName (M := fun o => M (.Assign [.Attribute o a p2] v p4)) (fun s p1 h => inName (M := fun v => M (.Assign [.Attribute (.Name s p1) a p2] v p4)) (fun s2 p3 h => and3k h fun h1 h2 h3 => by
    rw [eq_of_strEq h1, eq_of_strEq h2, eq_of_strEq h3]; exact k p1 p2 p3 p4) h) h) h) h) h
theorem init_inv {b : List Stmt} {M : List Stmt → Prop} (h : initBody b = true) (k : ∀ p1 p2 p3 p4 q1 q2 q3 q4, M [.Assign [.Attribute (.Name (nm 8) p1) (Str.ofString "value") p2] (.Name (nm 12) p3) p4, .Assign [.Attribute (.Name (nm 8) q1) (Str.ofString "mask") q2] (.Name (nm 13) q3) q4]) : M b :=
  in2 (M := M) (fun s1 s2 h => and2k h fun h1 h2 => set_inv (M := fun s1 => M [s1, s2]) h1 fun p1 p2 p3 p4 => set_inv (M := fun s2 => M [_, s2]) h2 fun q1 q2 q3 q4 => k p1 p2 p3 p4 q1 q2 q3 q4) h
noncomputable def onStmts (f : List Stmt → Bool) : FuncBody → Bool
  | .stmts body => f body
  | _ => false
theorem inStmts {f : List Stmt → Bool} {b : FuncBody} {M : Prop} (h : onStmts f b = true) (k : ∀ body, b = .stmts body → f body = true → M) : M := by
  cases b with
  | stmts body => exact k body rfl h
  | _ => exact no h
theorem inFound {α : Type} {f : α → Bool} {o : Option α} {M : Prop} (h : onSome f o = true) (k : ∀ a, o = some a → f a = true → M) : M := by
  cases o with
  | some a => exact k a rfl h
  | none => exact no h
noncomputable def initOk (K : Frag) (fI : Addr) : Bool := onSome (fun fd => (onStmts initBody fd.body && argsIn fd [8, 12, 13] && noDflt fd && codeIn K fd.code fd.qualname && decide (fd.scope.kind = .function) && !fd.scope.isCoroutine && !fd.scope.isGenerator && (fd.scope.names.all fun x => decide (x.2 ≠ .cell))) &&
      kindIn fd.scope (nm 8) .local && kindIn fd.scope (nm 12) .local && kindIn fd.scope (nm 13) .local) (fnIn K fI)
structure TnumK (K : Frag) (C fI : Addr) : Prop where
  makes : makesIn K C = true
  init : findIn K (.ref C) "__init__" = some (some (.ref fI))
  isfn : typeIn K (.ref fI) = some (.type "function")
  seta : findIn K (.ref C) "__setattr__" = some (some (.builtin "object.__setattr__"))
  over : plainOver K C = true
  tv : takerIn K C (Str.ofString "value") = some none
  tm : takerIn K C (Str.ofString "mask") = some none
  hd : hasDictIn K C = true
  pg : plainGet K C (Str.ofString "value") = true
  nv : findIn K (.ref C) (Str.ofString "value") = some none
  nm : findIn K (.ref C) (Str.ofString "mask") = some none
  ok : initOk K fI = true

theorem putL_len (name : Str) (h : Int) (key v : Value) : ∀ es : List DictEntry, (putL name h key v es).length ≤ es.length + 1
  | [] => by simp [putL]
  | e :: r => by
    rw [putL]
    split
    · simp
    · have := putL_len name h key v r
      simp; omega
noncomputable def dTnum : List V → Tree V
  | [.int v, .int m] => .ret (.tnum v m)
  | _ => .fail

section
variable {c : Cx} {k : Nat} {fI : Addr}
theorem spec_tnum (TK : TnumK c.K c.C fI) : CallSpec c (k + 1) (.ref c.C) dTnum := by
  intro A φ s pn us vs K Q E R S i h P
  unfold dTnum at h
  split at h
  · rename_i a b
    obtain ⟨v, w, rfl, e, e'⟩ := two_args i rfl
    obtain ⟨t1, rfl⟩ := int_is e
    obtain ⟨t2, rfl⟩ := int_is e'
    refine inFound TK.ok fun fd hfd ok => and4k ok fun ok k8 k12 k13 => and8k ok fun hbody hargs hnd hcode hk hco hgen hcell => inStmts hbody fun body hbd hbody => ?_
    · have k8 := of_decide_eq_true k8
      have k12 := of_decide_eq_true k12
      have k13 := of_decide_eq_true k13
      have hk := of_decide_eq_true hk
      have hco := (Bool.not_eq_true' _).mp hco
      have hgen := (Bool.not_eq_true' _).mp hgen
      have hd0 : fd.defaults = .none := by
        unfold noDflt at hnd
        split at hnd
        · assumption
        · exact no hnd
      refine via fun GG ret => ?_
      obtain ⟨oc, od, osl, hlk⟩ := fnIn_is hfd
      obtain ⟨hh, g, d, t, os⟩ := s
      refine ret (wpAny_call ?_)
      refine make_core (makes_of S.K TK.makes) (looks_findIn S.K TK.init) (fun self => bind_fn S.K self TK.isfn) (.inl rfl) ?_
      have X : c.K.In hh := S.K
      have k1 : ∀ b o, hh.get? b = some o → ((hh.push emptyDict).push (instObj c.C hh.objs.size)).get? b = some o := fun b o e => push_keeps _ _ (push_keeps _ _ e)
      have X1 : c.K.In ((hh.push emptyDict).push (instObj c.C hh.objs.size)) := X.keeps k1
      have hsz1 : (hh.push emptyDict).objs.size = hh.objs.size + 1 := Heap.size_push _ _
      have hsz2 : ((hh.push emptyDict).push (instObj c.C hh.objs.size)).objs.size = hh.objs.size + 2 := by rw [Heap.size_push, hsz1]
      have hroom : (A.under (.builtin "type.__call__" ⟨.ref c.C :: [.int a t1, .int b t2], []⟩)).depth < recursionLimit := by
        have := R.depth
        have : recursionLimit = 1000 := rfl
        rw [depth_under_make]
        omega
      refine codeAny_call_def (s := ⟨(hh.push emptyDict).push (instObj c.C hh.objs.size), g, d, t, os⟩) (fd := fd) (body := body) (binds := [(nm 8, .ref (hh.objs.size + 1)), (nm 12, .int a t1), (nm 13, .int b t2)]) hroom (X1 _ _ hlk) rfl (S.nolimit.keeps k1) (codeRec_of X1 hcode) hbd
        (binds_plain (args_plain hargs) (names_nodup (by decide) (by decide)) hd0 rfl _) (fun x hx => of_decide_eq_true (List.all_eq_true.mp hcell x hx)) (fun x hx => ?_) (fun h₀ hns hk0 => ?_) hco hgen hk
      · simp only [List.mem_cons, List.not_mem_nil, or_false] at hx
        rcases hx with rfl | rfl | rfl <;> assumption
      generalize hL : ((hh.push emptyDict).push (instObj c.C hh.objs.size)).objs.size = L at hns
      have hL' : L = hh.objs.size + 2 := by rw [← hL, hsz2]
      have F0 : Fr hh L h₀ (fun x => [(nm 8, Value.ref (hh.objs.size + 1)), (nm 12, .int a t1), (nm 13, .int b t2)].reverse.lookup x) := ⟨hns, fun b o e => hk0 b o (k1 b o e), le_add1 (by rw [hL']; omega)⟩
      have hx0 : ((hh.push emptyDict).push (instObj c.C hh.objs.size)).get? (hh.objs.size + 1) = some (instObj c.C hh.objs.size) := by
        rw [← hsz1]; exact Heap.get?_push_size _ rfl
      have hd1 : ((hh.push emptyDict).push (instObj c.C hh.objs.size)).get? hh.objs.size = some (dictOf [] 0) := push_keeps _ _ (Heap.get?_push_size _ rfl)
      have N0 : News hh L h₀ [(hh.objs.size + 1, instObj c.C hh.objs.size), (hh.objs.size, dictOf [] 0)] := fun p hp => by
        simp only [List.mem_cons, List.not_mem_nil, or_false] at hp
        rcases hp with rfl | rfl
        · exact ⟨hk0 _ _ hx0, na (by show hh.objs.size + 1 ≠ L; omega), not_live (le_add1 (by omega))⟩
        · exact ⟨hk0 _ _ hd1, na (by show hh.objs.size ≠ L; omega), heap_fresh _⟩
      generalize (A.under (.builtin "type.__call__" ⟨.ref c.C :: [.int a t1, .int b t2], []⟩)).deeper (callEnv fd L fI) = A2
      refine via fun GG ret => ?_
      have ldn : ∀ {s₂ : Shared} {m : Str → Option Value} {i : Nat} {p : Pos} {v : Value} {Q' : Value → Shared → Prop} {E' : Value → Shared → Prop}, fd.scope.names.lookup (nm i) = some .local → s₂.heap.Ns L m → m (nm i) = some v → Q' v s₂ → wpAny (model c.prog c.w) A2 (eval (.Name (nm i) p) (callEnv fd L fI)) Q' E' s₂ :=
        fun hk' hn hm hq => wpAny_Name (wpAny_loadName_local (env := callEnv fd L fI) hk hk' hn hm hq) (nm_plain _).1
      · skip
        obtain ⟨m, hm⟩ : ∃ m : Str → Option Value, m = fun x => [(nm 8, Value.ref (hh.objs.size + 1)), (nm 12, .int a t1), (nm 13, .int b t2)].reverse.lookup x := ⟨_, rfl⟩
        have m8 : m (nm 8) = some (.ref (hh.objs.size + 1)) := by rw [hm]; with_unfolding_all rfl
        have m12 : m (nm 12) = some (.int a t1) := by rw [hm]; with_unfolding_all rfl
        have m13 : m (nm 13) = some (.int b t2) := by rw [hm]; with_unfolding_all rfl
        rw [← hm] at F0 hns
        refine ret (init_inv (M := fun body => wpAny _ _ (execs body _) _ _ _) hbody fun p1 p2 p3 p4 q1 q2 q3 q4 => ?_)
        refine wpAny_execs_cons (plainObj_wpAny_Assign_Attribute (ldn k12 hns m12 (ldn k8 hns m8 ?_)))
        refine set_dict (K := c.K) (C := c.C) (dx := hh.objs.size) (es := []) (n := 0) F0 X N0 (InstAt.of_news N0 (.head _) (.tail _ (.head _))) rfl TK.seta TK.over TK.tv TK.hd rfl rfl (.tail (na (by show hh.objs.size + 1 ≠ hh.objs.size; omega)) (.head fun p hp => by cases hp)) (by simp [putL]) fun h1 F1 N1 => ?_
        refine wpAny_execs_cons (plainObj_wpAny_Assign_Attribute (ldn k13 F1.ns m13 (ldn k8 F1.ns m8 ?_)))
        refine set_dict (K := c.K) (C := c.C) (dx := hh.objs.size) F1 X N1 (InstAt.of_news N1 (.head _) (.tail _ (.head _))) rfl TK.seta TK.over TK.tm TK.hd (by with_unfolding_all rfl) rfl (.tail (na (by show hh.objs.size + 1 ≠ hh.objs.size; omega)) (.head fun p hp => by cases hp)) (Nat.le_trans (putL_len _ _ _ _ _) (by simp [putL])) fun h2 F2 N2 => ?_
        refine wpAny_execs_nil ⟨rfl, ?_⟩
        refine via fun GG ret => ?_
        have hxx := N2 _ (.head _)
        have hdd := N2 _ (.tail _ (.head _))
        dsimp only at hxx hdd
        generalize hdo : dictOf (putL (Str.ofString "mask") _ _ _ _) _ = od at hdd
        have hod : ∃ k1 k2 n h3 h4, od = dictOf [⟨h3, .str (Str.ofString "value") k1, .int a t1⟩, ⟨h4, .str (Str.ofString "mask") k2, .int b t2⟩] n := by
          rw [← hdo]
          exact ⟨_, _, _, _, _, by with_unfolding_all rfl⟩
        obtain ⟨k1', k2', n', hA', hB', rfl⟩ := hod
        have hk2 : ∀ a o, hh.get? a = some o → h2.get? a = some o := F2.keep
        obtain ⟨x₁, S₁⟩ := S.grow (h' := h2) (tk := t + 3 + 2 + 2) (fun q => if q = hh.objs.size + 1 then some (instObj c.C hh.objs.size) else if q = hh.objs.size then some (dictOf [⟨hA', .str (Str.ofString "value") k1', .int a t1⟩, ⟨hB', .str (Str.ofString "mask") k2', .int b t2⟩] n') else none) hk2 (fun q o e => by
          by_cases q1 : q = hh.objs.size + 1
          · rw [if_pos q1] at e; cases e; rw [q1]; exact ⟨hxx.1, hxx.2.2⟩
          · rw [if_neg q1] at e
            by_cases q2 : q = hh.objs.size
            · rw [if_pos q2] at e; cases e; rw [q2]; exact ⟨hdd.1, hdd.2.2⟩
            · rw [if_neg q2] at e; cases e)
        refine ret (P (.ref (hh.objs.size + 1)) (.tnum a b) _ _ pn h x₁ S₁ ⟨hh.objs.size + 1, hh.objs.size, hA', hB', k1', k2', t1, t2, n', rfl, ?_, ?_⟩)
        · dsimp only; rw [if_pos rfl]; rfl
        · dsimp only; rw [if_neg (na (by show hh.objs.size ≠ hh.objs.size + 1; omega)), if_pos rfl]; rfl
  · exact h.elim
end
end Mine

set_option autoImplicit false
namespace Mine
open PySem PySem.W PySem.Calls PyProof.Rows PyProof
set_option maxRecDepth 100000

noncomputable def staticOk (K : Frag) (C : Addr) (name : Str) (f : Addr) : Bool :=
  specialIn K (.ref C) "__getattribute__" == some (some (.builtin "type.__getattribute__")) &&
  (match typeIn K (.ref C) with
  | some mc => readsIn K C mc && (match findCls K (.ref C) mc name with
    | some (.get (.builtin id) (.ref p) .none (.ref C')) => id == "staticmethod.__get__" && C' == C && (match recIn K p "staticmethod" with
      | some (.ref f' :: _) => f' == f
      | _ => false)
    | _ => false)
  | none => false)
noncomputable def methOk (K : Frag) (C : Addr) (name : Str) (f : Addr) : Bool :=
  findIn K (.ref C) name == some (some (.ref f)) && typeIn K (.ref f) == some (.type "function") && !strEq name (Str.ofString "value") && !strEq name (Str.ofString "mask")
noncomputable def tnumOk (K : Frag) (C fI : Addr) : Bool :=
  makesIn K C && findIn K (.ref C) "__init__" == some (some (.ref fI)) && typeIn K (.ref fI) == some (.type "function") && findIn K (.ref C) "__setattr__" == some (some (.builtin "object.__setattr__")) && plainOver K C &&
  takerIn K C (Str.ofString "value") == some none && takerIn K C (Str.ofString "mask") == some none && hasDictIn K C && plainGet K C (Str.ofString "value") && findIn K (.ref C) (Str.ofString "value") == some none && findIn K (.ref C) (Str.ofString "mask") == some none && initOk K fI
theorem tnumK_of {K : Frag} {C fI : Addr} (h : tnumOk K C fI = true) : TnumK K C fI := by
  simp only [tnumOk, Bool.and_eq_true, beq_iff_eq] at h
  obtain ⟨⟨⟨⟨⟨⟨⟨⟨⟨⟨⟨h1, h2⟩, h3⟩, h4⟩, h5⟩, h6⟩, h7⟩, h8⟩, h9⟩, h10⟩, h11⟩, h12⟩ := h
  exact ⟨h1, h2, h3, h4, h5, h6, h7, h8, h9, h10, h11, h12⟩

section
variable {c : Cx} {A : Around} {s : Shared} {φ : Fz} {pn : Pn} {k : Nat} {E : Value → Shared → Prop} {fI : Addr}
theorem inst_of (S : St c φ s pn) {x m : Int} {o : Value} (i : Is c φ (.tnum x m) o) : ∃ a d h1 h2 k1 k2 t1 t2 n, o = .ref a ∧
    InstAt s.heap a (instObj c.C d) c.C (some (dictOf [⟨h1, .str (Str.ofString "value") k1, .int x t1⟩, ⟨h2, .str (Str.ofString "mask") k2, .int m t2⟩] n)) := by
  simp only [Is] at i
  obtain ⟨a, d, h1, h2, k1, k2, t1, t2, n, e1, e2, e3⟩ := i
  exact ⟨a, d, h1, h2, k1, k2, t1, t2, n, e1, ⟨S.sub _ _ e2, rfl, rfl, S.sub _ _ e3⟩⟩

theorem attr_ok (TK : TnumK c.K c.C fI) : ∀ (A : Around) (φ : Fz) (s : Shared) (pn : Pn) (x m : Int) (o : Value) (Q : Value → Shared → Prop) (E : Value → Shared → Prop), St c φ s pn → Is c φ (.tnum x m) o →
      ((∀ t tk, Q (.int x t) { s with toks := tk }) → wpAny (model c.prog c.w) A (getAttr o (Str.ofString "value") true) Q E s) ∧
      ((∀ t tk, Q (.int m t) { s with toks := tk }) → wpAny (model c.prog c.w) A (getAttr o (Str.ofString "mask") true) Q E s) := by
  intro A φ s pn x m o Q E S i
  obtain ⟨a, d, h1, h2, k1, k2, t1, t2, n, rfl, I⟩ := inst_of S i
  refine ⟨fun h => ?_, fun h => ?_⟩
  · exact get_value S.K I (plainGet_of TK.pg).1 (findObj_own TK.hd TK.nv rfl (by with_unfolding_all rfl)) rfl (h t1 _)
  · exact get_value S.K I (plainGet_of TK.pg).1 (findObj_own TK.hd TK.nm rfl (by with_unfolding_all rfl)) rfl (h t2 _)

theorem isStr_ne {a : Str} {k : Tok} {name : Str} (h : strEq name a = false) : (Value.str a k).isStr name = false := by
  cases q : (Value.str a k).isStr name with
  | false => rfl
  | true =>
    have : a = name := by
      first
        | exact beq_iff_eq.mp q
        | (unfold Value.isStr at q; exact beq_iff_eq.mp q)
        | (unfold Value.isStr at q; exact eq_of_beq q)
    rw [this] at h; simp [strEq] at h
theorem meth_of (TK : TnumK c.K c.C fI) {f : Addr} {name : Str} (hm : methOk c.K c.C name f = true) : ∀ (A : Around) (φ : Fz) (s : Shared) (pn : Pn) (x m : Int) (o : Value) (pl : Sem Bool) (Q : Value × List Value → Shared → Prop) (E : Value → Shared → Prop), St c φ s pn → Is c φ (.tnum x m) o → (∀ tk, Q (.ref f, [o]) { s with toks := tk }) →
      wpAny (model c.prog c.w) A (getMethod o name pl) Q E s := by
  intro A φ s pn x m o pl Q E S i h
  simp only [methOk, Bool.and_eq_true, beq_iff_eq, Bool.not_eq_true'] at hm
  obtain ⟨⟨⟨hf, ht⟩, n1⟩, n2⟩ := hm
  obtain ⟨a, d, h1, h2, k1, k2, t1, t2, n, rfl, I⟩ := inst_of S i
  refine method_fn S.K I (plainGet_of TK.pg).1 (plainGet_of TK.pg).2 hf ht ?_ (h s.toks)
  show (lookIn name (dictOf _ n)).map _ = _
  rw [lookIn_dict]
  unfold getL
  rw [List.find?_cons_of_neg (by rw [isStr_ne n1]; simp), List.find?_cons_of_neg (by rw [isStr_ne n2]; simp), List.find?_nil]
  rfl

theorem static_of {f : Addr} {name : Str} (hm : staticOk c.K c.C name f = true) : ∀ (A : Around) (s : Shared) (pl : Sem Bool) (Q : Value × List Value → Shared → Prop) (E : Value → Shared → Prop), (∀ b o, c.base.get? b = some o → s.heap.get? b = some o) → (∀ tk, Q (.ref f, []) { s with toks := tk }) →
      wpAny (model c.prog c.w) A (getMethod (.ref c.C) name pl) Q E s := by
  intro A s pl Q E hb h
  have X : c.K.In s.heap := c.X.keeps hb
  simp only [staticOk, Bool.and_eq_true, beq_iff_eq] at hm
  obtain ⟨hg, hm⟩ := hm
  split at hm
  · rename_i mc hmc
    simp only [Bool.and_eq_true] at hm
    obtain ⟨hr, hm⟩ := hm
    split at hm
    · rename_i id p C' hcls
      simp only [Bool.and_eq_true, beq_iff_eq] at hm
      obtain ⟨⟨rfl, rfl⟩, hm⟩ := hm
      split at hm
      · rename_i f' rest hrec
        have e0 := beq_iff_eq.mp hm
        subst e0
        exact method_cls X hg (cls_bind X hr hcls (wpAny_call (sm_get (s := { s with toks := s.toks + 1 }) X hrec (handed_on rfl (h _)))))
      · cases hm
    · cases hm
  · cases hm
end
end Mine

set_option autoImplicit false
namespace Mine
open PySem

noncomputable def need {α : Type} (P : Prop) (t : Tree α) : Tree α := @ite _ P (Classical.propDecidable P) t .fail
theorem need_all {α : Type} {P : Prop} {t : Tree α} {pn : Pn} {K : Pn → α → Prop} (h : (need P t).All pn K) : P ∧ t.All pn K := by
  unfold need at h
  split at h
  · rename_i hp; exact ⟨hp, h⟩
  · simp only [Tree.All, Tree.upN, Tree.knP] at h

noncomputable abbrev band := Builtin.bitAnd
noncomputable abbrev bor := Builtin.bitOr
noncomputable abbrev bxor := Builtin.bitXor
noncomputable abbrev B64 : Int := 18446744073709551616
noncomputable abbrev M64 : Int := 18446744073709551615
noncomputable abbrev M32 : Int := 4294967295

/-- a word read as signed -/
noncomputable def sg (w : Int) (n : Nat) : Int := if 2 ^ (n - 1) ≤ w % 2 ^ n then w % 2 ^ n - 2 ^ n else w % 2 ^ n
/-- the count of bits -/
noncomputable def bl (w : Int) : Nat := if w ≤ 0 then 0 else w.toNat.log2 + 1
noncomputable def bitsOf (m : Int) : List Nat := (List.range 64).filter fun k => decide (m / 2 ^ k % 2 = 1)
noncomputable def memsOf (v : Int) : List Nat → List Int
  | [] => [v]
  | p :: r => memsOf v r ++ (memsOf v r).map (· + 2 ^ p)
/-- the members, in the order of the text -/
noncomputable def mems (v m : Int) : List Int := memsOf v (bitsOf m).reverse
noncomputable def Word (x : Int) : Prop := 0 ≤ x ∧ x < B64
structure W3 (v m : Int) : Prop where
  wv : Word v
  wm : Word m
  apart : band v m = 0
  few : (bitsOf m).length ≤ 3
noncomputable def turn (x : Int) (w : Nat) : Int := (List.range w).foldl (fun acc k => acc * 256 + x / 256 ^ k % 256) 0

noncomputable def size1 (n : Int) : Bool := decide (1 ≤ n) && decide (n ≤ 64)
noncomputable def wordB (x : Int) : Bool := decide (0 ≤ x) && decide (x < B64)

noncomputable def dOnes : List V → Tree V
  | [.int n] => guard (decide (0 ≤ n) && decide (n ≤ 64)) (.ret (.int (2 ^ n.toNat - 1)))
  | _ => .fail
noncomputable def dWrap : List V → Tree V
  | [.int w, .int n] => guard (decide (0 ≤ n) && decide (n ≤ 64)) (.ret (.int (w % 2 ^ n.toNat)))
  | [.int w] => .ret (.int (w % B64))
  | _ => .fail
noncomputable def dSigned : List V → Tree V
  | [.int w, .int n] => guard (size1 n) (.ret (.int (sg w n.toNat)))
  | _ => .fail
noncomputable def dBitCount : List V → Tree V
  | [.int w] => guard (wordB w) (.ret (.int (bl w)))
  | _ => .fail
noncomputable def dConst : List V → Tree V
  | [.int w] => .ret (.tnum (w % B64) 0)
  | _ => .fail
noncomputable def dUnknown : List V → Tree V
  | [] => .ret (.tnum 0 M64)
  | _ => .fail
noncomputable def dSpan : List V → Tree V
  | [.int l, .int m] => guard (wordB l && wordB m && wordB (bxor l m)) (.ret (.tnum (l - band l (2 ^ bl (bxor l m) - 1)) (2 ^ bl (bxor l m) - 1)))
  | _ => .fail
noncomputable def dContains : List V → Tree V
  | [.tnum v m, .int w] => .ret (.bool (w - band w m == v))
  | _ => .fail
noncomputable def dIsConst : List V → Tree V
  | [.tnum _ m] => .ret (.bool (m == 0))
  | _ => .fail
noncomputable def dLeast : List V → Tree V
  | [.tnum v _] => .ret (.int v)
  | _ => .fail
noncomputable def dMost : List V → Tree V
  | [.tnum v m] => .ret (.int (bor v m))
  | _ => .fail
noncomputable def dSLeast : List V → Tree V
  | [.tnum v m, .int n] => guard (size1 n) (.ret (.int (sg (bor v (band m (2 ^ (n - 1).toNat))) n.toNat)))
  | _ => .fail
noncomputable def dSMost : List V → Tree V
  | [.tnum v m, .int n] => guard (size1 n) (.ret (.int (sg (bor v (band m (2 ^ (n - 1).toNat - 1))) n.toNat)))
  | _ => .fail
noncomputable def dAligned : List V → Tree V
  | [.tnum v m, .int w] => .ret (.bool (band (bor v m) (w - 1) == 0))
  | _ => .fail
noncomputable def dFree : List V → Tree V
  | [.tnum _ m] => guard (wordB m) (.ret (.list ((bitsOf m).map fun k : Nat => V.int (k : Int))))
  | _ => .fail
noncomputable def dTold : List V → Tree V
  | [.tnum v m] => .ret (.tup [.int v, .int m])
  | _ => .fail
noncomputable def wo (v m : Int) : V := .tnum (v % B64 - band (v % B64) (m % B64)) (m % B64)
noncomputable def dWithout : List V → Tree V
  | [.int v, .int m] => .ret (wo v m)
  | _ => .fail
noncomputable def vAdd (v1 m1 v2 m2 : Int) : V := wo (v1 + v2) (bor (bor (bxor (v1 + v2) (v1 + v2 + m1 + m2)) m1) m2)
noncomputable def vSub (v1 m1 v2 m2 : Int) : V := wo (v1 - v2) (bor (bor (bxor (v1 - v2 + m1) (v1 - v2 - m2)) m1) m2)
noncomputable def vAnd (v1 m1 v2 m2 : Int) : V := wo (band v1 v2) (band (band (bor v1 m1) (bor v2 m2)) (bxor M64 (band v1 v2)))
noncomputable def vOr (v1 m1 v2 m2 : Int) : V := .tnum (bor v1 v2) (band (bor m1 m2) (bxor M64 (bor v1 v2)))
noncomputable def vXor (v1 m1 v2 m2 : Int) : V := wo (bxor v1 v2) (bor m1 m2)
noncomputable def vJoin (v1 m1 v2 m2 : Int) : V := wo v1 (bor (bor m1 m2) (bxor v1 v2))
noncomputable def two (f : Int → Int → Int → Int → V) : List V → Tree V
  | [.tnum v1 m1, .tnum v2 m2] => .ret (f v1 m1 v2 m2)
  | _ => .fail
noncomputable def dNeg : List V → Tree V
  | [.tnum v m] => .ret (vSub 0 0 v m)
  | _ => .fail
noncomputable def cnt (n : Int) : Bool := decide (0 ≤ n) && decide (n < 64)
noncomputable def dLsh : List V → Tree V
  | [.tnum v m, .int n] => guard (cnt n && wordB v && wordB m) (.ret (.tnum (v * 2 ^ n.toNat % B64) (m * 2 ^ n.toNat % B64)))
  | _ => .fail
noncomputable def dRsh : List V → Tree V
  | [.tnum v m, .int n] => guard (cnt n) (.ret (.tnum (v / 2 ^ n.toNat) (m / 2 ^ n.toNat)))
  | _ => .fail
noncomputable def dArsh : List V → Tree V
  | [.tnum v m, .int n, .int z] => guard (cnt n && size1 z) (.ret (.tnum (sg v z.toNat / 2 ^ n.toNat % 2 ^ z.toNat) (sg m z.toNat / 2 ^ n.toNat % 2 ^ z.toNat)))
  | [.tnum v m, .int n] => guard (cnt n) (.ret (.tnum (sg v 64 / 2 ^ n.toNat % B64) (sg m 64 / 2 ^ n.toNat % B64)))
  | _ => .fail
noncomputable def dMul : List V → Tree V
  | [.tnum v1 m1, .tnum v2 m2] => need (W3 v1 m1 ∧ W3 v2 m2) (.any 0 (fun r => ∃ v m, r = .tnum v m ∧ Word v ∧ Word m ∧ band v m = 0 ∧ ∀ x ∈ mems v1 m1, ∀ y ∈ mems v2 m2, x * y % B64 - band (x * y % B64) m = v) .ret)
  | _ => .fail
noncomputable def dMeet : List V → Tree V
  | [.tnum v1 m1, .tnum v2 m2] => .ret (if band (bxor v1 v2) (bxor M64 (bor m1 m2)) = 0 then wo (bor v1 v2) (band m1 m2) else .none)
  | _ => .fail
noncomputable def dWithin : List V → Tree V
  | [.tnum v1 m1, .tnum v2 m2] => .ret (.bool (bor m1 m2 == m2 && v1 - band v1 m2 == v2))
  | _ => .fail
noncomputable def wid (w : Int) : Bool := w == 1 || w == 2 || w == 4 || w == 8
noncomputable def dCast : List V → Tree V
  | [.tnum v m, .int w] => guard (wid w) (.ret (.tnum (v % 256 ^ w.toNat) (m % 256 ^ w.toNat)))
  | _ => .fail
noncomputable def dLow32 : List V → Tree V
  | [.tnum v m] => .ret (.tnum (v % 4294967296) (m % 4294967296))
  | _ => .fail
noncomputable def dWithLow32 : List V → Tree V
  | [.tnum v1 m1, .tnum v2 m2] => .ret (.tnum (v1 - v1 % 4294967296 + v2 % 4294967296) (m1 - m1 % 4294967296 + m2 % 4294967296))
  | _ => .fail
noncomputable def dTSigned : List V → Tree V
  | [.tnum v m, .int n] => guard (size1 n) (.ret (.tnum (sg v n.toNat % B64) (sg m n.toNat % B64)))
  | _ => .fail
noncomputable def dTTurned : List V → Tree V
  | [.tnum v m, .int w] => guard (wid w && wordB v && wordB m) (.ret (.tnum (turn v w.toNat) (turn m w.toNat)))
  | _ => .fail
noncomputable def dAllN : List V → Tree V
  | [] => .ret (.int B64)
  | _ => .fail
noncomputable def dHalf : List V → Tree V
  | [] => .ret (.int 4294967296)
  | _ => .fail
noncomputable def dDraw : List V → Tree V
  | [.pen, .int m] => guard (decide (0 < m) && decide (m ≤ 65536)) (.draw m fun d => .ret (.int d))
  | _ => .fail
noncomputable def dPick : List V → Tree V
  | [.pen, .list xs] => need (xs ≠ [] ∧ xs.length < 1000) (.any 1 (fun v => v ∈ xs) .ret)
  | _ => .fail
noncomputable def dWorth : List V → Tree V
  | [.pen] => .any 6 (fun v => ∃ w, v = .int w ∧ Word w) .ret
  | _ => .fail
noncomputable def dPair : List V → Tree V
  | [.pen, .int near] => need (near < B64) (.any 20 (fun r => ∃ v m, r = .tup [.int v, .int m] ∧ W3 v m) .ret)
  | _ => .fail
noncomputable def dMembers : List V → Tree V
  | [.tup [.int v, .int m]] => need (W3 v m) (.ret (.list ((mems v m).map .int)))
  | _ => .fail
noncomputable def andAll : List Int → Int
  | [] => 0
  | x :: r => (x :: r).foldl band x
noncomputable def orAll : List Int → Int
  | [] => 0
  | x :: r => (x :: r).foldl bor x
noncomputable def dBest : List V → Tree V
  | [.list xs] => match intsOf xs with
    | some (n :: ns) => .ret (.tup [.int (andAll (n :: ns)), .int (orAll (n :: ns) - andAll (n :: ns))])
    | _ => .fail
  | _ => .fail
noncomputable def dTurned : List V → Tree V
  | [.int x, .int w] => guard (wid w) (.ret (.int (turn x w.toNat)))
  | _ => .fail
noncomputable def dTwoRight : List V → Tree V
  | [.tnum v1 m1, .tnum v2 m2, .list a, .list b] => need (W3 v1 m1 ∧ W3 v2 m2 ∧ a = (mems v1 m1).map .int ∧ b = (mems v2 m2).map .int) (.any 0 (fun r => r = .bool true) .ret)
  | _ => .fail
noncomputable def dOneRight : List V → Tree V
  | [.pen, .tnum v m, .list a] => need (W3 v m ∧ a = (mems v m).map .int) (.any 20 (fun r => r = .bool true) .ret)
  | _ => .fail
noncomputable def dSpanRight : List V → Tree V
  | [.pen] => .any 40 (fun r => r = .bool true) .ret
  | _ => .fail

noncomputable def FT (g : Nat) : List V → Tree V := match g with
  | 0 => dInt | 1 => dLen | 2 => dSum | 3 => dAbs | 4 => dMin | 5 => dMax | 6 => dAll | 7 => dRange | 8 => dList | 9 => dSorted
  | 12 => dTnum | 13 => dOnes | 14 => dWrap | 15 => dSigned | 16 => dBitCount | 17 => dConst | 18 => dUnknown | 19 => dSpan
  | 20 => dContains | 21 => dIsConst | 22 => dLeast | 23 => dMost | 24 => dSLeast | 25 => dSMost | 26 => dAligned | 27 => dFree | 28 => dTold
  | 29 => dWithout | 30 => two vAdd | 31 => two vSub | 32 => dNeg | 33 => two vAnd | 34 => two vOr | 35 => two vXor | 36 => dLsh | 37 => dRsh | 38 => dArsh
  | 40 => dMul | 41 => dMeet | 42 => two vJoin | 43 => dWithin | 44 => dCast | 45 => dLow32 | 46 => dWithLow32 | 47 => dTSigned | 48 => dTTurned
  | 49 => dAllN | 50 => dHalf | 52 => dDraw | 53 => dPick | 54 => dWorth | 55 => dPair | 56 => dMembers | 57 => dBest | 58 => dSigned | 59 => dTurned
  | 60 => dTwoRight | 61 => dOneRight | 62 => dOneRight | 63 => dSpanRight
  | _ => fun _ => .fail
noncomputable def GT (g : Nat) : Int := match g with
  | 10 => M64
  | _ => M32
theorem ft_0 : FT 0 = dInt := rfl
theorem ft_1 : FT 1 = dLen := rfl
theorem ft_2 : FT 2 = dSum := rfl
theorem ft_3 : FT 3 = dAbs := rfl
theorem ft_4 : FT 4 = dMin := rfl
theorem ft_5 : FT 5 = dMax := rfl
theorem ft_6 : FT 6 = dAll := rfl
theorem ft_7 : FT 7 = dRange := rfl
theorem ft_8 : FT 8 = dList := rfl
theorem ft_9 : FT 9 = dSorted := rfl
theorem ft_12 : FT 12 = dTnum := rfl
theorem ft_13 : FT 13 = dOnes := rfl
theorem ft_14 : FT 14 = dWrap := rfl
theorem ft_15 : FT 15 = dSigned := rfl
theorem ft_16 : FT 16 = dBitCount := rfl
theorem ft_17 : FT 17 = dConst := rfl
theorem ft_18 : FT 18 = dUnknown := rfl
theorem ft_19 : FT 19 = dSpan := rfl
theorem ft_20 : FT 20 = dContains := rfl
theorem ft_21 : FT 21 = dIsConst := rfl
theorem ft_22 : FT 22 = dLeast := rfl
theorem ft_23 : FT 23 = dMost := rfl
theorem ft_24 : FT 24 = dSLeast := rfl
theorem ft_25 : FT 25 = dSMost := rfl
theorem ft_26 : FT 26 = dAligned := rfl
theorem ft_27 : FT 27 = dFree := rfl
theorem ft_28 : FT 28 = dTold := rfl
theorem ft_29 : FT 29 = dWithout := rfl
theorem ft_30 : FT 30 = two vAdd := rfl
theorem ft_31 : FT 31 = two vSub := rfl
theorem ft_32 : FT 32 = dNeg := rfl
theorem ft_33 : FT 33 = two vAnd := rfl
theorem ft_34 : FT 34 = two vOr := rfl
theorem ft_35 : FT 35 = two vXor := rfl
theorem ft_36 : FT 36 = dLsh := rfl
theorem ft_37 : FT 37 = dRsh := rfl
theorem ft_38 : FT 38 = dArsh := rfl
theorem ft_40 : FT 40 = dMul := rfl
theorem ft_41 : FT 41 = dMeet := rfl
theorem ft_42 : FT 42 = two vJoin := rfl
theorem ft_43 : FT 43 = dWithin := rfl
theorem ft_44 : FT 44 = dCast := rfl
theorem ft_45 : FT 45 = dLow32 := rfl
theorem ft_46 : FT 46 = dWithLow32 := rfl
theorem ft_47 : FT 47 = dTSigned := rfl
theorem ft_48 : FT 48 = dTTurned := rfl
theorem ft_49 : FT 49 = dAllN := rfl
theorem ft_50 : FT 50 = dHalf := rfl
theorem ft_52 : FT 52 = dDraw := rfl
theorem ft_53 : FT 53 = dPick := rfl
theorem ft_54 : FT 54 = dWorth := rfl
theorem ft_55 : FT 55 = dPair := rfl
theorem ft_56 : FT 56 = dMembers := rfl
theorem ft_57 : FT 57 = dBest := rfl
theorem ft_58 : FT 58 = dSigned := rfl
theorem ft_59 : FT 59 = dTurned := rfl
theorem ft_60 : FT 60 = dTwoRight := rfl
theorem ft_61 : FT 61 = dOneRight := rfl
theorem ft_62 : FT 62 = dOneRight := rfl
theorem ft_63 : FT 63 = dSpanRight := rfl
theorem gt_10 : GT 10 = M64 := rfl
theorem gt_11 : GT 11 = M32 := rfl
end Mine

set_option autoImplicit false
namespace Mine
open PySem
/-- one bit of an int, as two's complement has it -/
noncomputable def tb (x : Int) (k : Nat) : Bool := decide (x / 2 ^ k % 2 = 1)
theorem pow_pos2 (k : Nat) : (0 : Int) < 2 ^ k := Int.pow_pos (by decide)
theorem tb_nat (n k : Nat) : tb (n : Int) k = n.testBit k := by
  unfold tb
  rw [Nat.testBit_eq_decide_div_mod_eq]
  have : ((n : Int) / 2 ^ k % 2) = ((n / 2 ^ k % 2 : Nat) : Int) := by push_cast; rfl
  rw [this]
  by_cases h : n / 2 ^ k % 2 = 1
  · simp [h]
  · have : ¬ ((n / 2 ^ k % 2 : Nat) : Int) = 1 := by omega
    simp [h]; omega
theorem tb_toNat {x : Int} (h : 0 ≤ x) (k : Nat) : tb x k = x.toNat.testBit k := by
  rw [← tb_nat, Int.toNat_of_nonneg h]
theorem tb_bit (q : Int) : decide (q % 2 = 1) = !decide (q % 2 = 0) := by
  by_cases h : q % 2 = 0
  · simp [h]
  · have : q % 2 = 1 := by omega
    simp [this]
theorem parity2 (q : Int) : decide ((-q - 1) % 2 = 1) = !decide (q % 2 = 1) := by
  rcases Int.emod_two_eq q with h | h
  · have : (-q - 1) % 2 = 1 := by omega
    rw [h, this]; rfl
  · have : (-q - 1) % 2 = 0 := by omega
    rw [h, this]; rfl
theorem parity (q u : Int) (c : Bool) : decide ((q + u + cond c 1 0) % 2 = 1) = ((decide (q % 2 = 1) ^^ decide (u % 2 = 1)) ^^ c) := by
  have e : (q + u + cond c 1 0) % 2 = (q % 2 + u % 2 + cond c 1 0) % 2 := by
    rw [Int.add_emod, Int.add_emod q u, ← Int.add_emod]
  rw [e]
  rcases Int.emod_two_eq q with h | h <;> rcases Int.emod_two_eq u with g | g <;> rw [h, g] <;> cases c <;> rfl
theorem neg_div (x : Int) {P : Int} (hp : 0 < P) : (-x - 1) / P = -(x / P) - 1 ∧ (-x - 1) % P = P - 1 - x % P := by
  have h1 := Int.emod_add_mul_ediv x P
  have h2 := Int.emod_nonneg x (Int.ne_of_gt hp)
  have h3 := Int.emod_lt_of_pos x hp
  have e : -x - 1 = (P - 1 - x % P) + P * (-(x / P) - 1) := by
    rw [Int.mul_sub, Int.mul_neg, Int.mul_one]; omega
  have b0 : 0 ≤ P - 1 - x % P := by omega
  have b1 : P - 1 - x % P < P := by omega
  constructor
  · rw [e, Int.add_mul_ediv_left _ _ (Int.ne_of_gt hp), Int.ediv_eq_zero_of_lt b0 b1, Int.zero_add]
  · conv => lhs; rw [e]
    rw [Int.add_mul_emod_self_left, Int.emod_eq_of_lt b0 b1]
theorem tb_not (x : Int) (k : Nat) : tb (-x - 1) k = !tb x k := by
  unfold tb
  rw [(neg_div x (pow_pos2 k)).1, parity2]
theorem add_div (x y : Int) {P : Int} (hp : 0 < P) : (x + y) / P = x / P + y / P + cond (decide (P ≤ x % P + y % P)) 1 0 := by
  have h1 := Int.emod_add_mul_ediv x P
  have h2 := Int.emod_nonneg x (Int.ne_of_gt hp)
  have h3 := Int.emod_lt_of_pos x hp
  have g1 := Int.emod_add_mul_ediv y P
  have g2 := Int.emod_nonneg y (Int.ne_of_gt hp)
  have g3 := Int.emod_lt_of_pos y hp
  have e : x + y = (x % P + y % P) + P * (x / P + y / P) := by rw [Int.mul_add]; omega
  conv => lhs; rw [e]
  rw [Int.add_mul_ediv_left _ _ (Int.ne_of_gt hp), Int.add_comm]
  congr 1
  by_cases hc : P ≤ x % P + y % P
  · rw [decide_eq_true hc]
    have e2 : x % P + y % P = (x % P + y % P - P) + P * 1 := by omega
    rw [e2, Int.add_mul_ediv_left _ _ (Int.ne_of_gt hp), Int.ediv_eq_zero_of_lt (by omega) (by omega)]; rfl
  · rw [decide_eq_false hc, Int.ediv_eq_zero_of_lt (by omega) (by omega)]; rfl
theorem tb_add (x y : Int) (k : Nat) : tb (x + y) k = ((tb x k ^^ tb y k) ^^ decide (2 ^ k ≤ x % 2 ^ k + y % 2 ^ k)) := by
  unfold tb
  rw [add_div x y (pow_pos2 k), parity]
theorem tb_sub (x y : Int) (k : Nat) : tb (x - y) k = ((tb x k ^^ tb y k) ^^ decide (x % 2 ^ k < y % 2 ^ k)) := by
  have e : x - y = -(-x - 1 + y) - 1 := by omega
  have e2 : decide ((2 : Int) ^ k ≤ (-x - 1) % 2 ^ k + y % 2 ^ k) = decide (x % 2 ^ k < y % 2 ^ k) := by
    rw [(neg_div x (pow_pos2 k)).2, decide_eq_decide]; omega
  rw [e, tb_not, tb_add, tb_not, e2]
  cases tb x k <;> cases tb y k <;> cases decide (x % 2 ^ k < y % 2 ^ k) <;> rfl

theorem pow_split (a b : Nat) : (2 : Int) ^ (a + b) = 2 ^ a * 2 ^ b := Int.pow_add 2 a b
theorem tb_div (x : Int) (n k : Nat) : tb (x / 2 ^ n) k = tb x (n + k) := by
  unfold tb
  rw [Int.ediv_ediv_of_nonneg (Int.le_of_lt (pow_pos2 n)), ← pow_split]
theorem tb_mul (x : Int) (n k : Nat) : tb (x * 2 ^ n) k = (decide (n ≤ k) && tb x (k - n)) := by
  unfold tb
  by_cases h : n ≤ k
  · have e : k = n + (k - n) := by omega
    rw [decide_eq_true h, Bool.true_and]
    conv => lhs; rw [e, pow_split, Int.mul_comm x, Int.mul_ediv_mul_of_pos _ _ (pow_pos2 n)]
  · rw [decide_eq_false h, Bool.false_and]
    have e : n = k + (n - k - 1 + 1) := by omega
    have : x * 2 ^ n / 2 ^ k % 2 = 0 := by
      rw [e, pow_split, Int.mul_comm x, Int.mul_assoc, Int.mul_ediv_cancel_left _ (Int.ne_of_gt (pow_pos2 k)), Int.pow_succ, Int.mul_comm _ x, ← Int.mul_assoc]
      exact Int.mul_emod_left _ _
    rw [this]; decide
theorem mod_mod_pow (x : Int) {a b : Nat} (h : a ≤ b) : x % 2 ^ b % 2 ^ a = x % 2 ^ a := by
  have e : b = a + (b - a) := by omega
  rw [e, pow_split]
  exact Int.emod_emod_of_dvd x (Int.dvd_mul_right _ _)
theorem tb_mod (x : Int) (n k : Nat) : tb (x % 2 ^ n) k = (decide (k < n) && tb x k) := by
  by_cases h : k < n
  · rw [decide_eq_true h, Bool.true_and]
    unfold tb
    have e : x % 2 ^ n / 2 ^ k % 2 = x / 2 ^ k % 2 := by
      have e1 : x % 2 ^ n = x - 2 ^ n * (x / 2 ^ n) := by have := Int.emod_add_mul_ediv x (2 ^ n); omega
      have e2 : (2 : Int) ^ n = 2 ^ k * (2 * 2 ^ (n - k - 1)) := by
        have e0 : n = k + (1 + (n - k - 1)) := by omega
        conv => lhs; rw [e0, pow_split, pow_split]
        rfl
      rw [e1]
      conv => lhs; rw [e2]
      generalize x / (2 ^ k * (2 * 2 ^ (n - k - 1))) = z
      have e3 : x - 2 ^ k * (2 * 2 ^ (n - k - 1)) * z = x + 2 ^ k * (-(2 * 2 ^ (n - k - 1) * z)) := by
        rw [Int.mul_neg, Int.mul_assoc]; omega
      rw [e3, Int.add_mul_ediv_left _ _ (Int.ne_of_gt (pow_pos2 k)), Int.mul_assoc]
      omega
    rw [e]
  · rw [decide_eq_false h, Bool.false_and]
    unfold tb
    have h1 := Int.emod_nonneg x (Int.ne_of_gt (pow_pos2 n))
    have h2 := Int.emod_lt_of_pos x (pow_pos2 n)
    have h3 : (2 : Int) ^ n ≤ 2 ^ k := by
      have e : k = n + (k - n) := by omega
      rw [e, pow_split]
      have := pow_pos2 (k - n)
      have h4 := Int.mul_le_mul_of_nonneg_left (show (1 : Int) ≤ 2 ^ (k - n) by omega) (Int.le_of_lt (pow_pos2 n))
      omega
    rw [Int.ediv_eq_zero_of_lt h1 (by omega)]; decide

/-- words of n bits are told by their bits -/
theorem ext_bits : ∀ {n : Nat} {x y : Int}, 0 ≤ x → x < 2 ^ n → 0 ≤ y → y < 2 ^ n → (∀ k, k < n → tb x k = tb y k) → x = y
  | 0, x, y, h1, h2, h3, h4, _ => by simp at h2 h4; omega
  | n + 1, x, y, h1, h2, h3, h4, h => by
    have hx := tb_mod x n
    have hp := pow_pos2 n
    have e : (2 : Int) ^ (n + 1) = 2 * 2 ^ n := by rw [Int.pow_succ, Int.mul_comm]
    have hm : x % 2 ^ n = y % 2 ^ n := ext_bits (Int.emod_nonneg _ (Int.ne_of_gt hp)) (Int.emod_lt_of_pos _ hp) (Int.emod_nonneg _ (Int.ne_of_gt hp)) (Int.emod_lt_of_pos _ hp) fun k hk => by
      rw [tb_mod, tb_mod, h k (by omega)]
    have hq := h n (by omega)
    unfold tb at hq
    have a1 := Int.emod_add_mul_ediv x (2 ^ n)
    have a2 := Int.emod_add_mul_ediv y (2 ^ n)
    have b1 : 0 ≤ x / 2 ^ n := Int.ediv_nonneg h1 (Int.le_of_lt hp)
    have b2 : x / 2 ^ n < 2 := Int.ediv_lt_of_lt_mul hp (by omega)
    have c1 : 0 ≤ y / 2 ^ n := Int.ediv_nonneg h3 (Int.le_of_lt hp)
    have c2 : y / 2 ^ n < 2 := Int.ediv_lt_of_lt_mul hp (by omega)
    have : x / 2 ^ n = y / 2 ^ n := by
      rw [decide_eq_decide] at hq
      omega
    rw [this, hm] at a1
    omega
theorem mod_succ (x : Int) (k : Nat) : x % 2 ^ (k + 1) = x % 2 ^ k + (if tb x k then 2 ^ k else 0) := by
  unfold tb
  have hp := pow_pos2 k
  have e : (2 : Int) ^ (k + 1) = 2 ^ k * 2 := Int.pow_succ 2 k
  rw [e]
  generalize (2 : Int) ^ k = P at hp
  have h1 := Int.emod_add_mul_ediv x P
  have h2 := Int.emod_nonneg x (Int.ne_of_gt hp)
  have h3 := Int.emod_lt_of_pos x hp
  generalize x % P = r at h1 h2 h3 ⊢
  generalize x / P = q at h1 ⊢
  have hq := Int.emod_add_mul_ediv q 2
  have e2 : x = (r + P * (q % 2)) + P * 2 * (q / 2) := by
    rw [Int.mul_assoc, ← h1]
    conv => lhs; rw [← hq, Int.mul_add]
    omega
  rw [e2, Int.add_mul_emod_self_left]
  have h4 : q % 2 = 0 ∨ q % 2 = 1 := by omega
  rcases h4 with h4 | h4
  · rw [h4]; simp; exact Int.emod_eq_of_lt h2 (by omega)
  · rw [h4]; simp; exact Int.emod_eq_of_lt (by omega) (by omega)
noncomputable def Sub (y x : Int) : Prop := ∀ k, tb y k = true → tb x k = true
theorem sub_mod {x y : Int} (h : Sub y x) : ∀ k, y % 2 ^ k ≤ x % 2 ^ k
  | 0 => by simp [Int.emod_one]
  | k + 1 => by
    have ih := sub_mod h k
    have hp := pow_pos2 k
    rw [mod_succ, mod_succ x]
    cases hy : tb y k with
    | true => rw [h k hy]; simp; exact ih
    | false =>
      cases tb x k <;> simp <;> omega
theorem tb_subm {x y : Int} (h : Sub y x) (k : Nat) : tb (x - y) k = (tb x k && !tb y k) := by
  rw [tb_sub, decide_eq_false (by have := sub_mod h k; omega)]
  cases hy : tb y k with
  | true => rw [h k hy]; rfl
  | false => cases tb x k <;> rfl

theorem nat_and (a b : Nat) (k : Nat) : tb ((a &&& b : Nat) : Int) k = (tb (a : Int) k && tb (b : Int) k) := by rw [tb_nat, tb_nat, tb_nat, Nat.testBit_and]
theorem nat_or (a b : Nat) (k : Nat) : tb ((a ||| b : Nat) : Int) k = (tb (a : Int) k || tb (b : Int) k) := by rw [tb_nat, tb_nat, tb_nat, Nat.testBit_or]
theorem tb_band (x y : Int) (k : Nat) : tb (Builtin.bitAnd x y) k = (tb x k && tb y k) := by
  unfold Builtin.bitAnd Builtin.bitNot
  by_cases hx : 0 ≤ x <;> by_cases hy : 0 ≤ y
  · rw [decide_eq_true hx, decide_eq_true hy]
    dsimp only
    rw [nat_and, Int.toNat_of_nonneg hx, Int.toNat_of_nonneg hy]
  · rw [decide_eq_true hx, decide_eq_false hy]
    dsimp only
    rw [tb_subm (fun j hj => by rw [nat_and, Int.toNat_of_nonneg hx] at hj; simp at hj; exact hj.1), nat_and, Int.toNat_of_nonneg hx, Int.toNat_of_nonneg (by omega), tb_not]
    cases tb x k <;> cases tb y k <;> rfl
  · rw [decide_eq_false hx, decide_eq_true hy]
    dsimp only
    rw [tb_subm (fun j hj => by rw [nat_and, Int.toNat_of_nonneg hy] at hj; simp at hj; exact hj.1), nat_and, Int.toNat_of_nonneg hy, Int.toNat_of_nonneg (by omega), tb_not]
    cases tb x k <;> cases tb y k <;> rfl
  · rw [decide_eq_false hx, decide_eq_false hy]
    dsimp only
    rw [tb_not, nat_or, Int.toNat_of_nonneg (by omega), Int.toNat_of_nonneg (by omega), tb_not, tb_not]
    cases tb x k <;> cases tb y k <;> rfl
theorem tb_bor (x y : Int) (k : Nat) : tb (Builtin.bitOr x y) k = (tb x k || tb y k) := by
  unfold Builtin.bitOr
  show tb (-(Builtin.bitAnd (-x - 1) (-y - 1)) - 1) k = _
  rw [tb_not, tb_band, tb_not, tb_not]
  cases tb x k <;> cases tb y k <;> rfl
theorem tb_bxor (x y : Int) (k : Nat) : tb (Builtin.bitXor x y) k = (tb x k ^^ tb y k) := by
  unfold Builtin.bitXor
  rw [tb_subm (fun j hj => by rw [tb_band] at hj; rw [tb_bor]; simp at hj; simp [hj]), tb_bor, tb_band]
  cases tb x k <;> cases tb y k <;> rfl

theorem tb_pow (n k : Nat) : tb (2 ^ n) k = decide (k = n) := by
  have := tb_mul 1 n k
  rw [Int.one_mul] at this
  rw [this]
  by_cases h : n ≤ k
  · rw [decide_eq_true h, Bool.true_and]
    by_cases h2 : k = n
    · subst h2; simp [tb]
    · have e : k - n = (k - n - 1) + 1 := by omega
      have hz : (1 : Int) / 2 ^ (k - n) = 0 := Int.ediv_eq_zero_of_lt (by decide) (by
        rw [e, Int.pow_succ]; have := pow_pos2 (k - n - 1); omega)
      simp [tb, hz, h2]
  · rw [decide_eq_false h, Bool.false_and, decide_eq_false (by omega)]
theorem tb_mask (n k : Nat) : tb (2 ^ n - 1) k = decide (k < n) := by
  have := tb_mod (-1) n k
  have e : (-1 : Int) % 2 ^ n = 2 ^ n - 1 := by
    have hp := pow_pos2 n
    rw [show (-1 : Int) = (2 ^ n - 1) + 2 ^ n * (-1) by omega, Int.add_mul_emod_self_left]
    exact Int.emod_eq_of_lt (by omega) (by omega)
  rw [e] at this
  rw [this]
  have : tb (-1) k = true := by
    have h := tb_not 0 k
    rw [show (-0 - 1 : Int) = -1 by decide] at h
    rw [h]
    simp [tb]
  rw [this, Bool.and_true]
theorem tb_zero (k : Nat) : tb 0 k = false := by simp [tb]

/-- words of n bits -/
noncomputable def Wd (n : Nat) (x : Int) : Prop := 0 ≤ x ∧ x < 2 ^ n
theorem Wd.high {n : Nat} {x : Int} (h : Wd n x) {k : Nat} (hk : n ≤ k) : tb x k = false := by
  have e : x % 2 ^ n = x := Int.emod_eq_of_lt h.1 h.2
  rw [← e, tb_mod, decide_eq_false (by omega), Bool.false_and]
theorem Wd.ext {n : Nat} {x y : Int} (h : Wd n x) (g : Wd n y) (e : ∀ k, k < n → tb x k = tb y k) : x = y := ext_bits h.1 h.2 g.1 g.2 e
theorem Wd.mod (n : Nat) (x : Int) : Wd n (x % 2 ^ n) := ⟨Int.emod_nonneg _ (Int.ne_of_gt (pow_pos2 n)), Int.emod_lt_of_pos _ (pow_pos2 n)⟩
theorem Wd.same {n : Nat} {x : Int} (h : Wd n x) : x % 2 ^ n = x := Int.emod_eq_of_lt h.1 h.2
theorem band_nonneg {x y : Int} (h : 0 ≤ x ∨ 0 ≤ y) : 0 ≤ Builtin.bitAnd x y := by
  unfold Builtin.bitAnd Builtin.bitNot
  by_cases hx : 0 ≤ x <;> by_cases hy : 0 ≤ y
  · rw [decide_eq_true hx, decide_eq_true hy]; dsimp only; omega
  · rw [decide_eq_true hx, decide_eq_false hy]; dsimp only
    have := Nat.and_le_left (n := x.toNat) (m := (-y - 1).toNat)
    omega
  · rw [decide_eq_false hx, decide_eq_true hy]; dsimp only
    have := Nat.and_le_left (n := y.toNat) (m := (-x - 1).toNat)
    omega
  · rcases h with h | h <;> contradiction
theorem band_le_left {x y : Int} (h : 0 ≤ x) : Builtin.bitAnd x y ≤ x := by
  unfold Builtin.bitAnd Builtin.bitNot
  by_cases hy : 0 ≤ y
  · rw [decide_eq_true h, decide_eq_true hy]; dsimp only
    have := Nat.and_le_left (n := x.toNat) (m := y.toNat)
    omega
  · rw [decide_eq_true h, decide_eq_false hy]; dsimp only; omega
/-- from bits alone: an int whose high bits are 0 is a word -/
theorem Wd.band {n : Nat} {x y : Int} (h : Wd n x) : Wd n (Builtin.bitAnd x y) := ⟨band_nonneg (.inl h.1), Int.lt_of_le_of_lt (band_le_left h.1) h.2⟩
theorem band_comm' (x y : Int) : Builtin.bitAnd x y = Builtin.bitAnd y x := by
  unfold Builtin.bitAnd Builtin.bitNot
  by_cases hx : 0 ≤ x <;> by_cases hy : 0 ≤ y <;> simp only [decide_eq_true, decide_eq_false, hx, hy, decide_true, decide_false]
  · rw [Nat.and_comm]
  · rw [Nat.or_comm]
theorem Wd.band' {n : Nat} {x y : Int} (h : Wd n y) : Wd n (Builtin.bitAnd x y) := by rw [band_comm']; exact h.band
theorem nat_wd {n a : Nat} (h : a < 2 ^ n) : Wd n (a : Int) := ⟨Int.natCast_nonneg a, by
  have : ((2 ^ n : Nat) : Int) = (2 : Int) ^ n := by push_cast; rfl
  rw [← this]; omega⟩
theorem Wd.toNat {n : Nat} {x : Int} (h : Wd n x) : x.toNat < 2 ^ n := by
  have h2 := h.2
  have : ((2 ^ n : Nat) : Int) = (2 : Int) ^ n := by push_cast; rfl
  rw [← this] at h2
  have := h.1
  omega
theorem bor_nat {x y : Int} (hx : 0 ≤ x) (hy : 0 ≤ y) : Builtin.bitOr x y = ((x.toNat ||| y.toNat : Nat) : Int) := by
  unfold Builtin.bitOr Builtin.bitAnd Builtin.bitNot
  have e1 : ¬ 0 ≤ -x - 1 := by omega
  have e2 : ¬ 0 ≤ -y - 1 := by omega
  rw [decide_eq_false e1, decide_eq_false e2]
  dsimp only
  rw [show -(-x - 1) - 1 = x by omega, show -(-y - 1) - 1 = y by omega]
  omega
theorem Wd.bor {n : Nat} {x y : Int} (h : Wd n x) (g : Wd n y) : Wd n (Builtin.bitOr x y) := by
  rw [bor_nat h.1 g.1]; exact nat_wd (Nat.or_lt_two_pow h.toNat g.toNat)
theorem Wd.bxor {n : Nat} {x y : Int} (h : Wd n x) (g : Wd n y) : Wd n (Builtin.bitXor x y) := by
  have h1 := Wd.bor h g
  unfold Builtin.bitXor
  have h2 : Builtin.bitAnd x y ≤ x := band_le_left h.1
  have h3 : 0 ≤ Builtin.bitAnd x y := band_nonneg (.inl h.1)
  have h4 : x ≤ Builtin.bitOr x y := by
    rw [bor_nat h.1 g.1]
    have := Nat.left_le_or (n := x.toNat) (m := y.toNat)
    have := h.1
    omega
  exact ⟨by omega, by have := h1.2; omega⟩
theorem band_mask (x : Int) (n : Nat) : Builtin.bitAnd x (2 ^ n - 1) = x % 2 ^ n := by
  have hm : Wd n (2 ^ n - 1) := ⟨by have := pow_pos2 n; omega, by omega⟩
  refine Wd.ext hm.band' (Wd.mod n x) fun k hk => ?_
  rw [tb_band, tb_mask, tb_mod, Bool.and_comm]

end Mine

set_option autoImplicit false
namespace Mine
open PySem
set_option maxRecDepth 10000
set_option linter.unusedSimpArgs false

theorem guard_true {α : Type} {b : Bool} (h : b = true) (t : Tree α) : guard b t = t := by rw [h]; rfl
theorem wordB_is {x : Int} (h : wordB x = true) : Wd 64 x := by
  simp only [wordB, Bool.and_eq_true, decide_eq_true_eq] at h
  exact ⟨h.1, h.2⟩
theorem wd_wordB {x : Int} (h : Wd 64 x) : wordB x = true := by
  simp only [wordB, Bool.and_eq_true, decide_eq_true_eq]
  exact ⟨h.1, h.2⟩
theorem one_shl (n : Nat) : (1 : Int) * 2 ^ n = 2 ^ n := Int.one_mul _
theorem shl_ok {n : Int} (h0 : 0 ≤ n) (h1 : n ≤ 64) {a : Int} (ha : small a = true) : (decide (0 ≤ n) && decide (n ≤ 1000000) && small a) = true := by
  simp only [Bool.and_eq_true, decide_eq_true_eq]; exact ⟨⟨h0, by omega⟩, ha⟩
theorem small_of {x : Int} (h : Wd 64 x) : small x = true := by
  have h1 := h.1
  have h2 := h.2
  simp only [small, decide_eq_true_eq]
  have : (2 : Int) ^ 64 = 18446744073709551616 := by decide
  have : (2 : Nat) ^ 64 = 18446744073709551616 := by decide
  omega

theorem sim_ones (us : List V) (pn : Pn) (K : Pn → V → Prop) (h : (dOnes us).All pn K) : us.length = 1 ∧ (runB FT GT 30 b_ones ([0].zip us)).All pn (Weak K) := by
  unfold dOnes at h
  split at h
  · rename_i n
    obtain ⟨hg, h⟩ := guard_all h
    simp only [Bool.and_eq_true, decide_eq_true_eq] at hg
    simp only [Tree.All, Tree.upN, Tree.knP] at h
    refine ⟨rfl, ?_⟩
    simp only [runB, exB, ex, ev, tv, evL, chainV, chainT, get, set, Nat.beq_eq_true_eq, cond_true, cond_false, Nat.beq, ov_add, ov_app, ov_sub, ov_mul, ov_div, ov_mod, ov_pow, ov_shl, ov_shr, ov_and, ov_or, ov_xor, optT, cv_lt, cv_le, cv_gt, cv_ge, cv_eq, cv_ne, cv_in, eqv_int, eqv_bool, eqv_list, truthyV, isNoneV, nthAny, assignsL, Tree.bind, Tree.All, Option.getD, List.zip_cons_cons, List.zip_nil_left, List.cons_append, List.nil_append, ft_0, ft_1, ft_2, ft_3, ft_4, ft_5, ft_6, ft_7, ft_8, ft_9, ft_12, ft_13, ft_14, ft_15, ft_16, ft_17, ft_18, ft_19, ft_20, ft_21, ft_22, ft_23, ft_24, ft_25, ft_26, ft_27, ft_28, ft_29, ft_30, ft_31, ft_32, ft_33, ft_34, ft_35, ft_36, ft_37, ft_38, ft_40, ft_41, ft_42, ft_43, ft_44, ft_45, ft_46, ft_47, ft_48, ft_49, ft_50, ft_52, ft_53, ft_54, ft_55, ft_56, ft_57, ft_58, ft_59, ft_60, ft_61, ft_62, ft_63, gt_10, gt_11, b_ones, guard_true (shl_ok hg.1 hg.2 (show small 1 = true by decide))]
    rw [one_shl]
    exact .inl h
  · simp only [Tree.All, Tree.upN, Tree.knP] at h
theorem sim_wrap (us : List V) (pn : Pn) (K : Pn → V → Prop) (h : (dWrap us).All pn K) : (us.length = 1 + 1 ∧ (runB FT GT 30 b_wrap (([1] ++ [0]).zip us)).All pn (Weak K)) ∨ (us.length = 1 ∧ (runB FT GT 30 b_wrap (([1] ++ [0]).zip (us ++ [V.int 64]))).All pn (Weak K)) := by
  unfold dWrap at h
  split at h
  · rename_i w n
    obtain ⟨hg, h⟩ := guard_all h
    simp only [Bool.and_eq_true, decide_eq_true_eq] at hg
    simp only [Tree.All, Tree.upN, Tree.knP] at h
    refine .inl ⟨rfl, ?_⟩
    simp only [runB, exB, ex, ev, tv, evL, chainV, chainT, get, set, Nat.beq_eq_true_eq, cond_true, cond_false, Nat.beq, ov_add, ov_app, ov_sub, ov_mul, ov_div, ov_mod, ov_pow, ov_shl, ov_shr, ov_and, ov_or, ov_xor, optT, cv_lt, cv_le, cv_gt, cv_ge, cv_eq, cv_ne, cv_in, eqv_int, eqv_bool, eqv_list, truthyV, isNoneV, nthAny, assignsL, Tree.bind, Tree.All, Option.getD, List.zip_cons_cons, List.zip_nil_left, List.cons_append, List.nil_append, ft_0, ft_1, ft_2, ft_3, ft_4, ft_5, ft_6, ft_7, ft_8, ft_9, ft_12, ft_13, ft_14, ft_15, ft_16, ft_17, ft_18, ft_19, ft_20, ft_21, ft_22, ft_23, ft_24, ft_25, ft_26, ft_27, ft_28, ft_29, ft_30, ft_31, ft_32, ft_33, ft_34, ft_35, ft_36, ft_37, ft_38, ft_40, ft_41, ft_42, ft_43, ft_44, ft_45, ft_46, ft_47, ft_48, ft_49, ft_50, ft_52, ft_53, ft_54, ft_55, ft_56, ft_57, ft_58, ft_59, ft_60, ft_61, ft_62, ft_63, gt_10, gt_11, b_wrap, guard_true (shl_ok hg.1 hg.2 (show small 1 = true by decide))]
    rw [one_shl, band_mask]
    exact .inl h
  · rename_i w
    simp only [Tree.All, Tree.upN, Tree.knP] at h
    refine .inr ⟨rfl, ?_⟩
    have e : Builtin.bitAnd w (1 * 2 ^ (64 : Int).toNat - 1) = w % B64 := by rw [one_shl]; exact band_mask w 64
    have g1 : (decide ((0 : Int) ≤ 64) && decide ((64 : Int) ≤ 1000000) && small 1) = true := by decide
    simp only [runB, exB, ex, ev, tv, evL, chainV, chainT, get, set, Nat.beq_eq_true_eq, cond_true, cond_false, Nat.beq, ov_add, ov_app, ov_sub, ov_mul, ov_div, ov_mod, ov_pow, ov_shl, ov_shr, ov_and, ov_or, ov_xor, optT, cv_lt, cv_le, cv_gt, cv_ge, cv_eq, cv_ne, cv_in, eqv_int, eqv_bool, eqv_list, truthyV, isNoneV, nthAny, assignsL, Tree.bind, Tree.All, Option.getD, List.zip_cons_cons, List.zip_nil_left, List.cons_append, List.nil_append, ft_0, ft_1, ft_2, ft_3, ft_4, ft_5, ft_6, ft_7, ft_8, ft_9, ft_12, ft_13, ft_14, ft_15, ft_16, ft_17, ft_18, ft_19, ft_20, ft_21, ft_22, ft_23, ft_24, ft_25, ft_26, ft_27, ft_28, ft_29, ft_30, ft_31, ft_32, ft_33, ft_34, ft_35, ft_36, ft_37, ft_38, ft_40, ft_41, ft_42, ft_43, ft_44, ft_45, ft_46, ft_47, ft_48, ft_49, ft_50, ft_52, ft_53, ft_54, ft_55, ft_56, ft_57, ft_58, ft_59, ft_60, ft_61, ft_62, ft_63, gt_10, gt_11, b_wrap, guard_true g1]
    rw [e]
    exact .inl h
  · simp only [Tree.All, Tree.upN, Tree.knP] at h

theorem size1_is {n : Int} (h : size1 n = true) : 1 ≤ n ∧ n ≤ 64 := by
  simpa only [size1, Bool.and_eq_true, decide_eq_true_eq] using h
theorem fdiv_pow (x : Int) (n : Nat) : x.fdiv (2 ^ n) = x / 2 ^ n := by
  rw [Int.fdiv_eq_ediv_of_nonneg _ (Int.le_of_lt (pow_pos2 n))]
theorem sg_test {w n : Int} (h1 : 1 ≤ n) : ((w % 2 ^ n.toNat).fdiv (2 ^ (n - 1).toNat) != 0) = decide (2 ^ (n.toNat - 1) ≤ w % 2 ^ n.toNat) := by
  have e : (n - 1).toNat = n.toNat - 1 := by omega
  rw [e, fdiv_pow]
  have hw := Wd.mod n.toNat w
  have hp := pow_pos2 (n.toNat - 1)
  by_cases hq : 2 ^ (n.toNat - 1) ≤ w % 2 ^ n.toNat
  · rw [decide_eq_true hq]
    have : 1 ≤ w % 2 ^ n.toNat / 2 ^ (n.toNat - 1) := Int.le_ediv_of_mul_le hp (by omega)
    simp; omega
  · rw [decide_eq_false hq]
    have : w % 2 ^ n.toNat / 2 ^ (n.toNat - 1) = 0 := Int.ediv_eq_zero_of_lt hw.1 (by omega)
    rw [this]; rfl
theorem sim_signed (us : List V) (pn : Pn) (K : Pn → V → Prop) (h : (dSigned us).All pn K) : (us.length = 1 + 1 ∧ (runB FT GT 30 b_signed (([1] ++ [0]).zip us)).All pn (Weak K)) ∨ (us.length = 1 ∧ (runB FT GT 30 b_signed (([1] ++ [0]).zip (us ++ [V.int 64]))).All pn (Weak K)) := by
  unfold dSigned at h
  split at h
  · rename_i w n
    obtain ⟨hg, h⟩ := guard_all h
    obtain ⟨g1, g2⟩ := size1_is hg
    simp only [Tree.All, Tree.upN, Tree.knP] at h
    refine .inl ⟨rfl, ?_⟩
    have g3 : decide (0 ≤ n - 1) = true := by simp; omega
    simp only [runB, exB, ex, ev, tv, evL, chainV, chainT, get, set, Nat.beq_eq_true_eq, cond_true, cond_false, Nat.beq, ov_add, ov_app, ov_sub, ov_mul, ov_div, ov_mod, ov_pow, ov_shl, ov_shr, ov_and, ov_or, ov_xor, optT, cv_lt, cv_le, cv_gt, cv_ge, cv_eq, cv_ne, cv_in, eqv_int, eqv_bool, eqv_list, truthyV, isNoneV, nthAny, assignsL, Tree.bind, Tree.All, Option.getD, List.zip_cons_cons, List.zip_nil_left, List.cons_append, List.nil_append, ft_0, ft_1, ft_2, ft_3, ft_4, ft_5, ft_6, ft_7, ft_8, ft_9, ft_12, ft_13, ft_14, ft_15, ft_16, ft_17, ft_18, ft_19, ft_20, ft_21, ft_22, ft_23, ft_24, ft_25, ft_26, ft_27, ft_28, ft_29, ft_30, ft_31, ft_32, ft_33, ft_34, ft_35, ft_36, ft_37, ft_38, ft_40, ft_41, ft_42, ft_43, ft_44, ft_45, ft_46, ft_47, ft_48, ft_49, ft_50, ft_52, ft_53, ft_54, ft_55, ft_56, ft_57, ft_58, ft_59, ft_60, ft_61, ft_62, ft_63, gt_10, gt_11, b_signed, guard_true (shl_ok (show 0 ≤ n by omega) g2 (show small 1 = true by decide)), guard_true g3]
    rw [one_shl, band_mask, sg_test g1]
    unfold sg at h
    by_cases hq : 2 ^ (n.toNat - 1) ≤ w % 2 ^ n.toNat
    · rw [if_pos hq] at h
      rw [decide_eq_true hq]
      exact .inl h
    · rw [if_neg hq] at h
      rw [decide_eq_false hq]
      exact .inl h
  · simp only [Tree.All, Tree.upN, Tree.knP] at h
theorem sim_law_signed (us : List V) (pn : Pn) (K : Pn → V → Prop) (h : (dSigned us).All pn K) : us.length = 2 ∧ (runB FT GT 30 b_law_signed ([1, 0].zip us)).All pn (Weak K) := by
  unfold dSigned at h
  split at h
  · rename_i w n
    obtain ⟨hg, h⟩ := guard_all h
    obtain ⟨g1, g2⟩ := size1_is hg
    simp only [Tree.All, Tree.upN, Tree.knP] at h
    refine ⟨rfl, ?_⟩
    have g3 : (2 ^ n.toNat != (0 : Int)) = true := by have := pow_pos2 n.toNat; simp; omega
    have g4 : (decide (0 ≤ n) && decide (n ≤ 1000000) && small 2) = true := shl_ok (by omega) g2 (by decide)
    have g5 : (decide (0 ≤ n - 1) && decide (n - 1 ≤ 1000000) && small 2) = true := shl_ok (by omega) (by omega) (by decide)
    have e1 : w.fmod (2 ^ n.toNat) = w % 2 ^ n.toNat := Int.fmod_eq_emod_of_nonneg _ (Int.le_of_lt (pow_pos2 _))
    have e2 : (n - 1).toNat = n.toNat - 1 := by omega
    simp only [runB, exB, ex, ev, tv, evL, chainV, chainT, get, set, Nat.beq_eq_true_eq, cond_true, cond_false, Nat.beq, ov_add, ov_app, ov_sub, ov_mul, ov_div, ov_mod, ov_pow, ov_shl, ov_shr, ov_and, ov_or, ov_xor, optT, cv_lt, cv_le, cv_gt, cv_ge, cv_eq, cv_ne, cv_in, eqv_int, eqv_bool, eqv_list, truthyV, isNoneV, nthAny, assignsL, Tree.bind, Tree.All, Option.getD, List.zip_cons_cons, List.zip_nil_left, List.cons_append, List.nil_append, ft_0, ft_1, ft_2, ft_3, ft_4, ft_5, ft_6, ft_7, ft_8, ft_9, ft_12, ft_13, ft_14, ft_15, ft_16, ft_17, ft_18, ft_19, ft_20, ft_21, ft_22, ft_23, ft_24, ft_25, ft_26, ft_27, ft_28, ft_29, ft_30, ft_31, ft_32, ft_33, ft_34, ft_35, ft_36, ft_37, ft_38, ft_40, ft_41, ft_42, ft_43, ft_44, ft_45, ft_46, ft_47, ft_48, ft_49, ft_50, ft_52, ft_53, ft_54, ft_55, ft_56, ft_57, ft_58, ft_59, ft_60, ft_61, ft_62, ft_63, gt_10, gt_11, b_law_signed, guard_true g3, guard_true g4, guard_true g5, e1, e2]
    unfold sg at h
    by_cases hq : 2 ^ (n.toNat - 1) ≤ w % 2 ^ n.toNat
    · rw [if_pos hq] at h
      rw [show decide (w % 2 ^ n.toNat ≥ 2 ^ (n.toNat - 1)) = true from decide_eq_true hq]
      simp only [Tree.bind, Tree.All, Tree.upN, Tree.knP, guard_true g4]
      exact .inl h
    · rw [if_neg hq] at h
      rw [show decide (w % 2 ^ n.toNat ≥ 2 ^ (n.toNat - 1)) = false from decide_eq_false hq]
      exact .inl h
  · simp only [Tree.All, Tree.upN, Tree.knP] at h
theorem sim_Tnum_const (us : List V) (pn : Pn) (K : Pn → V → Prop) (h : (dConst us).All pn K) : us.length = 1 ∧ (runB FT GT 30 b_Tnum_const ([1].zip us)).All pn (Weak K) := by
  unfold dConst at h
  split at h
  · simp only [Tree.All, Tree.upN, Tree.knP] at h
    refine ⟨rfl, ?_⟩
    simp only [runB, exB, ex, ev, tv, evL, chainV, chainT, get, set, Nat.beq_eq_true_eq, cond_true, cond_false, Nat.beq, ov_add, ov_app, ov_sub, ov_mul, ov_div, ov_mod, ov_pow, ov_shl, ov_shr, ov_and, ov_or, ov_xor, optT, cv_lt, cv_le, cv_gt, cv_ge, cv_eq, cv_ne, cv_in, eqv_int, eqv_bool, eqv_list, truthyV, isNoneV, nthAny, assignsL, Tree.bind, Tree.All, Option.getD, List.zip_cons_cons, List.zip_nil_left, List.cons_append, List.nil_append, ft_0, ft_1, ft_2, ft_3, ft_4, ft_5, ft_6, ft_7, ft_8, ft_9, ft_12, ft_13, ft_14, ft_15, ft_16, ft_17, ft_18, ft_19, ft_20, ft_21, ft_22, ft_23, ft_24, ft_25, ft_26, ft_27, ft_28, ft_29, ft_30, ft_31, ft_32, ft_33, ft_34, ft_35, ft_36, ft_37, ft_38, ft_40, ft_41, ft_42, ft_43, ft_44, ft_45, ft_46, ft_47, ft_48, ft_49, ft_50, ft_52, ft_53, ft_54, ft_55, ft_56, ft_57, ft_58, ft_59, ft_60, ft_61, ft_62, ft_63, gt_10, gt_11, b_Tnum_const, dWrap, dTnum]
    exact .inl h
  · simp only [Tree.All, Tree.upN, Tree.knP] at h
theorem sim_Tnum_unknown (us : List V) (pn : Pn) (K : Pn → V → Prop) (h : (dUnknown us).All pn K) : us.length = 0 ∧ (runB FT GT 30 b_Tnum_unknown ([].zip us)).All pn (Weak K) := by
  unfold dUnknown at h
  split at h
  · simp only [Tree.All, Tree.upN, Tree.knP] at h
    exact ⟨rfl, .inl h⟩
  · simp only [Tree.All, Tree.upN, Tree.knP] at h
theorem sim_Tnum_contains (us : List V) (pn : Pn) (K : Pn → V → Prop) (h : (dContains us).All pn K) : us.length = 2 ∧ (runB FT GT 30 b_Tnum_contains ([8, 1].zip us)).All pn (Weak K) := by
  unfold dContains at h
  split at h
  · simp only [Tree.All, Tree.upN, Tree.knP] at h
    exact ⟨rfl, .inl h⟩
  · simp only [Tree.All, Tree.upN, Tree.knP] at h
theorem sim_Tnum_is_const (us : List V) (pn : Pn) (K : Pn → V → Prop) (h : (dIsConst us).All pn K) : us.length = 1 ∧ (runB FT GT 30 b_Tnum_is_const ([8].zip us)).All pn (Weak K) := by
  unfold dIsConst at h
  split at h
  · simp only [Tree.All, Tree.upN, Tree.knP] at h
    exact ⟨rfl, .inl h⟩
  · simp only [Tree.All, Tree.upN, Tree.knP] at h
theorem sim_Tnum_least (us : List V) (pn : Pn) (K : Pn → V → Prop) (h : (dLeast us).All pn K) : us.length = 1 ∧ (runB FT GT 30 b_Tnum_least ([8].zip us)).All pn (Weak K) := by
  unfold dLeast at h
  split at h
  · simp only [Tree.All, Tree.upN, Tree.knP] at h
    exact ⟨rfl, .inl h⟩
  · simp only [Tree.All, Tree.upN, Tree.knP] at h
theorem sim_Tnum_most (us : List V) (pn : Pn) (K : Pn → V → Prop) (h : (dMost us).All pn K) : us.length = 1 ∧ (runB FT GT 30 b_Tnum_most ([8].zip us)).All pn (Weak K) := by
  unfold dMost at h
  split at h
  · simp only [Tree.All, Tree.upN, Tree.knP] at h
    exact ⟨rfl, .inl h⟩
  · simp only [Tree.All, Tree.upN, Tree.knP] at h
theorem sim_Tnum_told (us : List V) (pn : Pn) (K : Pn → V → Prop) (h : (dTold us).All pn K) : us.length = 1 ∧ (runB FT GT 30 b_Tnum_told ([8].zip us)).All pn (Weak K) := by
  unfold dTold at h
  split at h
  · simp only [Tree.All, Tree.upN, Tree.knP] at h
    exact ⟨rfl, .inl h⟩
  · simp only [Tree.All, Tree.upN, Tree.knP] at h
theorem sim_Tnum_is_aligned (us : List V) (pn : Pn) (K : Pn → V → Prop) (h : (dAligned us).All pn K) : us.length = 2 ∧ (runB FT GT 30 b_Tnum_is_aligned ([8, 9].zip us)).All pn (Weak K) := by
  unfold dAligned at h
  split at h
  · simp only [Tree.All, Tree.upN, Tree.knP] at h
    exact ⟨rfl, .inl h⟩
  · simp only [Tree.All, Tree.upN, Tree.knP] at h
theorem sim_without (us : List V) (pn : Pn) (K : Pn → V → Prop) (h : (dWithout us).All pn K) : us.length = 2 ∧ (runB FT GT 30 b_without ([12, 13].zip us)).All pn (Weak K) := by
  unfold dWithout at h
  split at h
  · simp only [Tree.All, Tree.upN, Tree.knP] at h
    refine ⟨rfl, ?_⟩
    simp only [runB, exB, ex, ev, tv, evL, chainV, chainT, get, set, Nat.beq_eq_true_eq, cond_true, cond_false, Nat.beq, ov_add, ov_app, ov_sub, ov_mul, ov_div, ov_mod, ov_pow, ov_shl, ov_shr, ov_and, ov_or, ov_xor, optT, cv_lt, cv_le, cv_gt, cv_ge, cv_eq, cv_ne, cv_in, eqv_int, eqv_bool, eqv_list, truthyV, isNoneV, nthAny, assignsL, Tree.bind, Tree.All, Option.getD, List.zip_cons_cons, List.zip_nil_left, List.cons_append, List.nil_append, ft_0, ft_1, ft_2, ft_3, ft_4, ft_5, ft_6, ft_7, ft_8, ft_9, ft_12, ft_13, ft_14, ft_15, ft_16, ft_17, ft_18, ft_19, ft_20, ft_21, ft_22, ft_23, ft_24, ft_25, ft_26, ft_27, ft_28, ft_29, ft_30, ft_31, ft_32, ft_33, ft_34, ft_35, ft_36, ft_37, ft_38, ft_40, ft_41, ft_42, ft_43, ft_44, ft_45, ft_46, ft_47, ft_48, ft_49, ft_50, ft_52, ft_53, ft_54, ft_55, ft_56, ft_57, ft_58, ft_59, ft_60, ft_61, ft_62, ft_63, gt_10, gt_11, b_without, dWrap, dTnum]
    exact .inl h
  · simp only [Tree.All, Tree.upN, Tree.knP] at h
theorem sim_tnum_add (us : List V) (pn : Pn) (K : Pn → V → Prop) (h : (two vAdd us).All pn K) : us.length = 2 ∧ (runB FT GT 30 b_tnum_add ([16, 17].zip us)).All pn (Weak K) := by
  unfold two at h
  split at h
  · simp only [Tree.All, Tree.upN, Tree.knP] at h
    refine ⟨rfl, ?_⟩
    simp only [runB, exB, ex, ev, tv, evL, chainV, chainT, get, set, Nat.beq_eq_true_eq, cond_true, cond_false, Nat.beq, ov_add, ov_app, ov_sub, ov_mul, ov_div, ov_mod, ov_pow, ov_shl, ov_shr, ov_and, ov_or, ov_xor, optT, cv_lt, cv_le, cv_gt, cv_ge, cv_eq, cv_ne, cv_in, eqv_int, eqv_bool, eqv_list, truthyV, isNoneV, nthAny, assignsL, Tree.bind, Tree.All, Option.getD, List.zip_cons_cons, List.zip_nil_left, List.cons_append, List.nil_append, ft_0, ft_1, ft_2, ft_3, ft_4, ft_5, ft_6, ft_7, ft_8, ft_9, ft_12, ft_13, ft_14, ft_15, ft_16, ft_17, ft_18, ft_19, ft_20, ft_21, ft_22, ft_23, ft_24, ft_25, ft_26, ft_27, ft_28, ft_29, ft_30, ft_31, ft_32, ft_33, ft_34, ft_35, ft_36, ft_37, ft_38, ft_40, ft_41, ft_42, ft_43, ft_44, ft_45, ft_46, ft_47, ft_48, ft_49, ft_50, ft_52, ft_53, ft_54, ft_55, ft_56, ft_57, ft_58, ft_59, ft_60, ft_61, ft_62, ft_63, gt_10, gt_11, b_tnum_add, dWithout, dTnum]
    exact .inl h
  · simp only [Tree.All, Tree.upN, Tree.knP] at h
theorem sim_tnum_sub (us : List V) (pn : Pn) (K : Pn → V → Prop) (h : (two vSub us).All pn K) : us.length = 2 ∧ (runB FT GT 30 b_tnum_sub ([16, 17].zip us)).All pn (Weak K) := by
  unfold two at h
  split at h
  · simp only [Tree.All, Tree.upN, Tree.knP] at h
    refine ⟨rfl, ?_⟩
    simp only [runB, exB, ex, ev, tv, evL, chainV, chainT, get, set, Nat.beq_eq_true_eq, cond_true, cond_false, Nat.beq, ov_add, ov_app, ov_sub, ov_mul, ov_div, ov_mod, ov_pow, ov_shl, ov_shr, ov_and, ov_or, ov_xor, optT, cv_lt, cv_le, cv_gt, cv_ge, cv_eq, cv_ne, cv_in, eqv_int, eqv_bool, eqv_list, truthyV, isNoneV, nthAny, assignsL, Tree.bind, Tree.All, Option.getD, List.zip_cons_cons, List.zip_nil_left, List.cons_append, List.nil_append, ft_0, ft_1, ft_2, ft_3, ft_4, ft_5, ft_6, ft_7, ft_8, ft_9, ft_12, ft_13, ft_14, ft_15, ft_16, ft_17, ft_18, ft_19, ft_20, ft_21, ft_22, ft_23, ft_24, ft_25, ft_26, ft_27, ft_28, ft_29, ft_30, ft_31, ft_32, ft_33, ft_34, ft_35, ft_36, ft_37, ft_38, ft_40, ft_41, ft_42, ft_43, ft_44, ft_45, ft_46, ft_47, ft_48, ft_49, ft_50, ft_52, ft_53, ft_54, ft_55, ft_56, ft_57, ft_58, ft_59, ft_60, ft_61, ft_62, ft_63, gt_10, gt_11, b_tnum_sub, dWithout, dTnum]
    exact .inl h
  · simp only [Tree.All, Tree.upN, Tree.knP] at h
theorem sim_tnum_and (us : List V) (pn : Pn) (K : Pn → V → Prop) (h : (two vAnd us).All pn K) : us.length = 2 ∧ (runB FT GT 30 b_tnum_and ([16, 17].zip us)).All pn (Weak K) := by
  unfold two at h
  split at h
  · simp only [Tree.All, Tree.upN, Tree.knP] at h
    refine ⟨rfl, ?_⟩
    simp only [runB, exB, ex, ev, tv, evL, chainV, chainT, get, set, Nat.beq_eq_true_eq, cond_true, cond_false, Nat.beq, ov_add, ov_app, ov_sub, ov_mul, ov_div, ov_mod, ov_pow, ov_shl, ov_shr, ov_and, ov_or, ov_xor, optT, cv_lt, cv_le, cv_gt, cv_ge, cv_eq, cv_ne, cv_in, eqv_int, eqv_bool, eqv_list, truthyV, isNoneV, nthAny, assignsL, Tree.bind, Tree.All, Option.getD, List.zip_cons_cons, List.zip_nil_left, List.cons_append, List.nil_append, ft_0, ft_1, ft_2, ft_3, ft_4, ft_5, ft_6, ft_7, ft_8, ft_9, ft_12, ft_13, ft_14, ft_15, ft_16, ft_17, ft_18, ft_19, ft_20, ft_21, ft_22, ft_23, ft_24, ft_25, ft_26, ft_27, ft_28, ft_29, ft_30, ft_31, ft_32, ft_33, ft_34, ft_35, ft_36, ft_37, ft_38, ft_40, ft_41, ft_42, ft_43, ft_44, ft_45, ft_46, ft_47, ft_48, ft_49, ft_50, ft_52, ft_53, ft_54, ft_55, ft_56, ft_57, ft_58, ft_59, ft_60, ft_61, ft_62, ft_63, gt_10, gt_11, b_tnum_and, dWithout, dTnum]
    exact .inl h
  · simp only [Tree.All, Tree.upN, Tree.knP] at h
theorem sim_tnum_or (us : List V) (pn : Pn) (K : Pn → V → Prop) (h : (two vOr us).All pn K) : us.length = 2 ∧ (runB FT GT 30 b_tnum_or ([16, 17].zip us)).All pn (Weak K) := by
  unfold two at h
  split at h
  · simp only [Tree.All, Tree.upN, Tree.knP] at h
    refine ⟨rfl, ?_⟩
    simp only [runB, exB, ex, ev, tv, evL, chainV, chainT, get, set, Nat.beq_eq_true_eq, cond_true, cond_false, Nat.beq, ov_add, ov_app, ov_sub, ov_mul, ov_div, ov_mod, ov_pow, ov_shl, ov_shr, ov_and, ov_or, ov_xor, optT, cv_lt, cv_le, cv_gt, cv_ge, cv_eq, cv_ne, cv_in, eqv_int, eqv_bool, eqv_list, truthyV, isNoneV, nthAny, assignsL, Tree.bind, Tree.All, Option.getD, List.zip_cons_cons, List.zip_nil_left, List.cons_append, List.nil_append, ft_0, ft_1, ft_2, ft_3, ft_4, ft_5, ft_6, ft_7, ft_8, ft_9, ft_12, ft_13, ft_14, ft_15, ft_16, ft_17, ft_18, ft_19, ft_20, ft_21, ft_22, ft_23, ft_24, ft_25, ft_26, ft_27, ft_28, ft_29, ft_30, ft_31, ft_32, ft_33, ft_34, ft_35, ft_36, ft_37, ft_38, ft_40, ft_41, ft_42, ft_43, ft_44, ft_45, ft_46, ft_47, ft_48, ft_49, ft_50, ft_52, ft_53, ft_54, ft_55, ft_56, ft_57, ft_58, ft_59, ft_60, ft_61, ft_62, ft_63, gt_10, gt_11, b_tnum_or, dWithout, dTnum]
    exact .inl h
  · simp only [Tree.All, Tree.upN, Tree.knP] at h
theorem sim_tnum_xor (us : List V) (pn : Pn) (K : Pn → V → Prop) (h : (two vXor us).All pn K) : us.length = 2 ∧ (runB FT GT 30 b_tnum_xor ([16, 17].zip us)).All pn (Weak K) := by
  unfold two at h
  split at h
  · simp only [Tree.All, Tree.upN, Tree.knP] at h
    refine ⟨rfl, ?_⟩
    simp only [runB, exB, ex, ev, tv, evL, chainV, chainT, get, set, Nat.beq_eq_true_eq, cond_true, cond_false, Nat.beq, ov_add, ov_app, ov_sub, ov_mul, ov_div, ov_mod, ov_pow, ov_shl, ov_shr, ov_and, ov_or, ov_xor, optT, cv_lt, cv_le, cv_gt, cv_ge, cv_eq, cv_ne, cv_in, eqv_int, eqv_bool, eqv_list, truthyV, isNoneV, nthAny, assignsL, Tree.bind, Tree.All, Option.getD, List.zip_cons_cons, List.zip_nil_left, List.cons_append, List.nil_append, ft_0, ft_1, ft_2, ft_3, ft_4, ft_5, ft_6, ft_7, ft_8, ft_9, ft_12, ft_13, ft_14, ft_15, ft_16, ft_17, ft_18, ft_19, ft_20, ft_21, ft_22, ft_23, ft_24, ft_25, ft_26, ft_27, ft_28, ft_29, ft_30, ft_31, ft_32, ft_33, ft_34, ft_35, ft_36, ft_37, ft_38, ft_40, ft_41, ft_42, ft_43, ft_44, ft_45, ft_46, ft_47, ft_48, ft_49, ft_50, ft_52, ft_53, ft_54, ft_55, ft_56, ft_57, ft_58, ft_59, ft_60, ft_61, ft_62, ft_63, gt_10, gt_11, b_tnum_xor, dWithout, dTnum]
    exact .inl h
  · simp only [Tree.All, Tree.upN, Tree.knP] at h
theorem sim_tnum_join (us : List V) (pn : Pn) (K : Pn → V → Prop) (h : (two vJoin us).All pn K) : us.length = 2 ∧ (runB FT GT 30 b_tnum_join ([16, 17].zip us)).All pn (Weak K) := by
  unfold two at h
  split at h
  · simp only [Tree.All, Tree.upN, Tree.knP] at h
    refine ⟨rfl, ?_⟩
    simp only [runB, exB, ex, ev, tv, evL, chainV, chainT, get, set, Nat.beq_eq_true_eq, cond_true, cond_false, Nat.beq, ov_add, ov_app, ov_sub, ov_mul, ov_div, ov_mod, ov_pow, ov_shl, ov_shr, ov_and, ov_or, ov_xor, optT, cv_lt, cv_le, cv_gt, cv_ge, cv_eq, cv_ne, cv_in, eqv_int, eqv_bool, eqv_list, truthyV, isNoneV, nthAny, assignsL, Tree.bind, Tree.All, Option.getD, List.zip_cons_cons, List.zip_nil_left, List.cons_append, List.nil_append, ft_0, ft_1, ft_2, ft_3, ft_4, ft_5, ft_6, ft_7, ft_8, ft_9, ft_12, ft_13, ft_14, ft_15, ft_16, ft_17, ft_18, ft_19, ft_20, ft_21, ft_22, ft_23, ft_24, ft_25, ft_26, ft_27, ft_28, ft_29, ft_30, ft_31, ft_32, ft_33, ft_34, ft_35, ft_36, ft_37, ft_38, ft_40, ft_41, ft_42, ft_43, ft_44, ft_45, ft_46, ft_47, ft_48, ft_49, ft_50, ft_52, ft_53, ft_54, ft_55, ft_56, ft_57, ft_58, ft_59, ft_60, ft_61, ft_62, ft_63, gt_10, gt_11, b_tnum_join, dWithout, dTnum]
    exact .inl h
  · simp only [Tree.All, Tree.upN, Tree.knP] at h
theorem sim_tnum_neg (us : List V) (pn : Pn) (K : Pn → V → Prop) (h : (dNeg us).All pn K) : us.length = 1 ∧ (runB FT GT 30 b_tnum_neg ([16].zip us)).All pn (Weak K) := by
  unfold dNeg at h
  split at h
  · simp only [Tree.All, Tree.upN, Tree.knP] at h
    refine ⟨rfl, ?_⟩
    simp only [runB, exB, ex, ev, tv, evL, chainV, chainT, get, set, Nat.beq_eq_true_eq, cond_true, cond_false, Nat.beq, ov_add, ov_app, ov_sub, ov_mul, ov_div, ov_mod, ov_pow, ov_shl, ov_shr, ov_and, ov_or, ov_xor, optT, cv_lt, cv_le, cv_gt, cv_ge, cv_eq, cv_ne, cv_in, eqv_int, eqv_bool, eqv_list, truthyV, isNoneV, nthAny, assignsL, Tree.bind, Tree.All, Option.getD, List.zip_cons_cons, List.zip_nil_left, List.cons_append, List.nil_append, ft_0, ft_1, ft_2, ft_3, ft_4, ft_5, ft_6, ft_7, ft_8, ft_9, ft_12, ft_13, ft_14, ft_15, ft_16, ft_17, ft_18, ft_19, ft_20, ft_21, ft_22, ft_23, ft_24, ft_25, ft_26, ft_27, ft_28, ft_29, ft_30, ft_31, ft_32, ft_33, ft_34, ft_35, ft_36, ft_37, ft_38, ft_40, ft_41, ft_42, ft_43, ft_44, ft_45, ft_46, ft_47, ft_48, ft_49, ft_50, ft_52, ft_53, ft_54, ft_55, ft_56, ft_57, ft_58, ft_59, ft_60, ft_61, ft_62, ft_63, gt_10, gt_11, b_tnum_neg, two, dTnum]
    exact .inl h
  · simp only [Tree.All, Tree.upN, Tree.knP] at h
theorem sim_law_all (us : List V) (pn : Pn) (K : Pn → V → Prop) (h : (dAllN us).All pn K) : us.length = 0 ∧ (runB FT GT 30 b_law_all ([].zip us)).All pn (Weak K) := by
  unfold dAllN at h
  split at h
  · simp only [Tree.All, Tree.upN, Tree.knP] at h
    exact ⟨rfl, .inl h⟩
  · simp only [Tree.All, Tree.upN, Tree.knP] at h
theorem sim_law_half (us : List V) (pn : Pn) (K : Pn → V → Prop) (h : (dHalf us).All pn K) : us.length = 0 ∧ (runB FT GT 30 b_law_half ([].zip us)).All pn (Weak K) := by
  unfold dHalf at h
  split at h
  · simp only [Tree.All, Tree.upN, Tree.knP] at h
    exact ⟨rfl, .inl h⟩
  · simp only [Tree.All, Tree.upN, Tree.knP] at h
theorem sim_Tnum_signed_least (us : List V) (pn : Pn) (K : Pn → V → Prop) (h : (dSLeast us).All pn K) : us.length = 2 ∧ (runB FT GT 30 b_Tnum_signed_least ([8, 0].zip us)).All pn (Weak K) := by
  unfold dSLeast at h
  split at h
  · rename_i v m n
    obtain ⟨hg, h⟩ := guard_all h
    obtain ⟨g1, g2⟩ := size1_is hg
    simp only [Tree.All, Tree.upN, Tree.knP] at h
    refine ⟨rfl, ?_⟩
    simp only [runB, exB, ex, ev, tv, evL, chainV, chainT, get, set, Nat.beq_eq_true_eq, cond_true, cond_false, Nat.beq, ov_add, ov_app, ov_sub, ov_mul, ov_div, ov_mod, ov_pow, ov_shl, ov_shr, ov_and, ov_or, ov_xor, optT, cv_lt, cv_le, cv_gt, cv_ge, cv_eq, cv_ne, cv_in, eqv_int, eqv_bool, eqv_list, truthyV, isNoneV, nthAny, assignsL, Tree.bind, Tree.All, Option.getD, List.zip_cons_cons, List.zip_nil_left, List.cons_append, List.nil_append, ft_0, ft_1, ft_2, ft_3, ft_4, ft_5, ft_6, ft_7, ft_8, ft_9, ft_12, ft_13, ft_14, ft_15, ft_16, ft_17, ft_18, ft_19, ft_20, ft_21, ft_22, ft_23, ft_24, ft_25, ft_26, ft_27, ft_28, ft_29, ft_30, ft_31, ft_32, ft_33, ft_34, ft_35, ft_36, ft_37, ft_38, ft_40, ft_41, ft_42, ft_43, ft_44, ft_45, ft_46, ft_47, ft_48, ft_49, ft_50, ft_52, ft_53, ft_54, ft_55, ft_56, ft_57, ft_58, ft_59, ft_60, ft_61, ft_62, ft_63, gt_10, gt_11, b_Tnum_signed_least, guard_true (shl_ok (show 0 ≤ n - 1 by omega) (show n - 1 ≤ 64 by omega) (show small 1 = true by decide)), dSigned, guard_true hg]
    rw [one_shl]
    exact .inl h
  · simp only [Tree.All, Tree.upN, Tree.knP] at h
theorem sim_Tnum_signed_most (us : List V) (pn : Pn) (K : Pn → V → Prop) (h : (dSMost us).All pn K) : us.length = 2 ∧ (runB FT GT 30 b_Tnum_signed_most ([8, 0].zip us)).All pn (Weak K) := by
  unfold dSMost at h
  split at h
  · rename_i v m n
    obtain ⟨hg, h⟩ := guard_all h
    obtain ⟨g1, g2⟩ := size1_is hg
    simp only [Tree.All, Tree.upN, Tree.knP] at h
    refine ⟨rfl, ?_⟩
    have g3 : (decide (0 ≤ n - 1) && decide (n - 1 ≤ 64)) = true := by simp; omega
    simp only [runB, exB, ex, ev, tv, evL, chainV, chainT, get, set, Nat.beq_eq_true_eq, cond_true, cond_false, Nat.beq, ov_add, ov_app, ov_sub, ov_mul, ov_div, ov_mod, ov_pow, ov_shl, ov_shr, ov_and, ov_or, ov_xor, optT, cv_lt, cv_le, cv_gt, cv_ge, cv_eq, cv_ne, cv_in, eqv_int, eqv_bool, eqv_list, truthyV, isNoneV, nthAny, assignsL, Tree.bind, Tree.All, Option.getD, List.zip_cons_cons, List.zip_nil_left, List.cons_append, List.nil_append, ft_0, ft_1, ft_2, ft_3, ft_4, ft_5, ft_6, ft_7, ft_8, ft_9, ft_12, ft_13, ft_14, ft_15, ft_16, ft_17, ft_18, ft_19, ft_20, ft_21, ft_22, ft_23, ft_24, ft_25, ft_26, ft_27, ft_28, ft_29, ft_30, ft_31, ft_32, ft_33, ft_34, ft_35, ft_36, ft_37, ft_38, ft_40, ft_41, ft_42, ft_43, ft_44, ft_45, ft_46, ft_47, ft_48, ft_49, ft_50, ft_52, ft_53, ft_54, ft_55, ft_56, ft_57, ft_58, ft_59, ft_60, ft_61, ft_62, ft_63, gt_10, gt_11, b_Tnum_signed_most, dOnes, guard_true g3, dSigned, guard_true hg]
    exact .inl h
  · simp only [Tree.All, Tree.upN, Tree.knP] at h
end Mine

set_option autoImplicit false
namespace Mine
open PySem
set_option maxRecDepth 10000
set_option linter.unusedSimpArgs false

theorem cnt_is {n : Int} (h : cnt n = true) : 0 ≤ n ∧ n < 64 := by
  simpa only [cnt, Bool.and_eq_true, decide_eq_true_eq] using h
theorem sim_tnum_lsh (us : List V) (pn : Pn) (K : Pn → V → Prop) (h : (dLsh us).All pn K) : us.length = 2 ∧ (runB FT GT 30 b_tnum_lsh ([16, 19].zip us)).All pn (Weak K) := by
  unfold dLsh at h
  split at h
  · rename_i v m n
    obtain ⟨hg, h⟩ := guard_all h
    simp only [Bool.and_eq_true] at hg
    obtain ⟨⟨g1, g2⟩, g3⟩ := hg
    obtain ⟨n0, n1⟩ := cnt_is g1
    simp only [Tree.All, Tree.upN, Tree.knP] at h
    refine ⟨rfl, ?_⟩
    simp only [runB, exB, ex, ev, tv, evL, chainV, chainT, get, set, Nat.beq_eq_true_eq, cond_true, cond_false, Nat.beq, ov_add, ov_app, ov_sub, ov_mul, ov_div, ov_mod, ov_pow, ov_shl, ov_shr, ov_and, ov_or, ov_xor, optT, cv_lt, cv_le, cv_gt, cv_ge, cv_eq, cv_ne, cv_in, eqv_int, eqv_bool, eqv_list, truthyV, isNoneV, nthAny, assignsL, Tree.bind, Tree.All, Option.getD, List.zip_cons_cons, List.zip_nil_left, List.cons_append, List.nil_append, ft_0, ft_1, ft_2, ft_3, ft_4, ft_5, ft_6, ft_7, ft_8, ft_9, ft_12, ft_13, ft_14, ft_15, ft_16, ft_17, ft_18, ft_19, ft_20, ft_21, ft_22, ft_23, ft_24, ft_25, ft_26, ft_27, ft_28, ft_29, ft_30, ft_31, ft_32, ft_33, ft_34, ft_35, ft_36, ft_37, ft_38, ft_40, ft_41, ft_42, ft_43, ft_44, ft_45, ft_46, ft_47, ft_48, ft_49, ft_50, ft_52, ft_53, ft_54, ft_55, ft_56, ft_57, ft_58, ft_59, ft_60, ft_61, ft_62, ft_63, gt_10, gt_11, b_tnum_lsh, guard_true (shl_ok n0 (show n ≤ 64 by omega) (small_of (wordB_is g2))), guard_true (shl_ok n0 (show n ≤ 64 by omega) (small_of (wordB_is g3))), dWrap, dTnum]
    exact .inl h
  · simp only [Tree.All, Tree.upN, Tree.knP] at h
theorem sim_tnum_rsh (us : List V) (pn : Pn) (K : Pn → V → Prop) (h : (dRsh us).All pn K) : us.length = 2 ∧ (runB FT GT 30 b_tnum_rsh ([16, 19].zip us)).All pn (Weak K) := by
  unfold dRsh at h
  split at h
  · rename_i v m n
    obtain ⟨hg, h⟩ := guard_all h
    obtain ⟨n0, n1⟩ := cnt_is hg
    simp only [Tree.All, Tree.upN, Tree.knP] at h
    refine ⟨rfl, ?_⟩
    have g : decide (0 ≤ n) = true := by simpa using n0
    simp only [runB, exB, ex, ev, tv, evL, chainV, chainT, get, set, Nat.beq_eq_true_eq, cond_true, cond_false, Nat.beq, ov_add, ov_app, ov_sub, ov_mul, ov_div, ov_mod, ov_pow, ov_shl, ov_shr, ov_and, ov_or, ov_xor, optT, cv_lt, cv_le, cv_gt, cv_ge, cv_eq, cv_ne, cv_in, eqv_int, eqv_bool, eqv_list, truthyV, isNoneV, nthAny, assignsL, Tree.bind, Tree.All, Option.getD, List.zip_cons_cons, List.zip_nil_left, List.cons_append, List.nil_append, ft_0, ft_1, ft_2, ft_3, ft_4, ft_5, ft_6, ft_7, ft_8, ft_9, ft_12, ft_13, ft_14, ft_15, ft_16, ft_17, ft_18, ft_19, ft_20, ft_21, ft_22, ft_23, ft_24, ft_25, ft_26, ft_27, ft_28, ft_29, ft_30, ft_31, ft_32, ft_33, ft_34, ft_35, ft_36, ft_37, ft_38, ft_40, ft_41, ft_42, ft_43, ft_44, ft_45, ft_46, ft_47, ft_48, ft_49, ft_50, ft_52, ft_53, ft_54, ft_55, ft_56, ft_57, ft_58, ft_59, ft_60, ft_61, ft_62, ft_63, gt_10, gt_11, b_tnum_rsh, guard_true g, dTnum, fdiv_pow]
    exact .inl h
  · simp only [Tree.All, Tree.upN, Tree.knP] at h
theorem sim_tnum_arsh (us : List V) (pn : Pn) (K : Pn → V → Prop) (h : (dArsh us).All pn K) : (us.length = 2 + 1 ∧ (runB FT GT 30 b_tnum_arsh (([16, 19] ++ [0]).zip us)).All pn (Weak K)) ∨ (us.length = 2 ∧ (runB FT GT 30 b_tnum_arsh (([16, 19] ++ [0]).zip (us ++ [V.int 64]))).All pn (Weak K)) := by
  unfold dArsh at h
  split at h
  · rename_i v m n z
    obtain ⟨hg, h⟩ := guard_all h
    simp only [Bool.and_eq_true] at hg
    obtain ⟨n0, n1⟩ := cnt_is hg.1
    obtain ⟨z0, z1⟩ := size1_is hg.2
    simp only [Tree.All, Tree.upN, Tree.knP] at h
    refine .inl ⟨rfl, ?_⟩
    have g : decide (0 ≤ n) = true := by simpa using n0
    have g4 : (decide (0 ≤ z) && decide (z ≤ 64)) = true := by simp; omega
    simp only [runB, exB, ex, ev, tv, evL, chainV, chainT, get, set, Nat.beq_eq_true_eq, cond_true, cond_false, Nat.beq, ov_add, ov_app, ov_sub, ov_mul, ov_div, ov_mod, ov_pow, ov_shl, ov_shr, ov_and, ov_or, ov_xor, optT, cv_lt, cv_le, cv_gt, cv_ge, cv_eq, cv_ne, cv_in, eqv_int, eqv_bool, eqv_list, truthyV, isNoneV, nthAny, assignsL, Tree.bind, Tree.All, Option.getD, List.zip_cons_cons, List.zip_nil_left, List.cons_append, List.nil_append, ft_0, ft_1, ft_2, ft_3, ft_4, ft_5, ft_6, ft_7, ft_8, ft_9, ft_12, ft_13, ft_14, ft_15, ft_16, ft_17, ft_18, ft_19, ft_20, ft_21, ft_22, ft_23, ft_24, ft_25, ft_26, ft_27, ft_28, ft_29, ft_30, ft_31, ft_32, ft_33, ft_34, ft_35, ft_36, ft_37, ft_38, ft_40, ft_41, ft_42, ft_43, ft_44, ft_45, ft_46, ft_47, ft_48, ft_49, ft_50, ft_52, ft_53, ft_54, ft_55, ft_56, ft_57, ft_58, ft_59, ft_60, ft_61, ft_62, ft_63, gt_10, gt_11, b_tnum_arsh, guard_true g, guard_true g4, guard_true hg.2, dTnum, dSigned, dWrap, fdiv_pow]
    exact .inl h
  · rename_i v m n
    obtain ⟨hg, h⟩ := guard_all h
    obtain ⟨n0, n1⟩ := cnt_is hg
    simp only [Tree.All, Tree.upN, Tree.knP] at h
    refine .inr ⟨rfl, ?_⟩
    have g : decide (0 ≤ n) = true := by simpa using n0
    have g4 : (decide ((0 : Int) ≤ 64) && decide ((64 : Int) ≤ 64)) = true := by decide
    have g5 : size1 64 = true := by decide
    simp only [runB, exB, ex, ev, tv, evL, chainV, chainT, get, set, Nat.beq_eq_true_eq, cond_true, cond_false, Nat.beq, ov_add, ov_app, ov_sub, ov_mul, ov_div, ov_mod, ov_pow, ov_shl, ov_shr, ov_and, ov_or, ov_xor, optT, cv_lt, cv_le, cv_gt, cv_ge, cv_eq, cv_ne, cv_in, eqv_int, eqv_bool, eqv_list, truthyV, isNoneV, nthAny, assignsL, Tree.bind, Tree.All, Option.getD, List.zip_cons_cons, List.zip_nil_left, List.cons_append, List.nil_append, ft_0, ft_1, ft_2, ft_3, ft_4, ft_5, ft_6, ft_7, ft_8, ft_9, ft_12, ft_13, ft_14, ft_15, ft_16, ft_17, ft_18, ft_19, ft_20, ft_21, ft_22, ft_23, ft_24, ft_25, ft_26, ft_27, ft_28, ft_29, ft_30, ft_31, ft_32, ft_33, ft_34, ft_35, ft_36, ft_37, ft_38, ft_40, ft_41, ft_42, ft_43, ft_44, ft_45, ft_46, ft_47, ft_48, ft_49, ft_50, ft_52, ft_53, ft_54, ft_55, ft_56, ft_57, ft_58, ft_59, ft_60, ft_61, ft_62, ft_63, gt_10, gt_11, b_tnum_arsh, guard_true g, guard_true g4, guard_true g5, dTnum, dSigned, dWrap, fdiv_pow]
    exact .inl h
  · simp only [Tree.All, Tree.upN, Tree.knP] at h
theorem wid_cases {w : Int} (h : wid w = true) : w = 1 ∨ w = 2 ∨ w = 4 ∨ w = 8 := by
  simp only [wid, Bool.or_eq_true, beq_iff_eq] at h
  rcases h with ((h | h) | h) | h
  · exact .inl h
  · exact .inr (.inl h)
  · exact .inr (.inr (.inl h))
  · exact .inr (.inr (.inr h))
theorem band_low (x : Int) (n : Nat) : band x (2 ^ n - 1) = x % 2 ^ n := band_mask x n
theorem sim_tnum_cast (us : List V) (pn : Pn) (K : Pn → V → Prop) (h : (dCast us).All pn K) : us.length = 2 ∧ (runB FT GT 30 b_tnum_cast ([16, 9].zip us)).All pn (Weak K) := by
  unfold dCast at h
  split at h
  · rename_i v m w
    obtain ⟨hg, h⟩ := guard_all h
    simp only [Tree.All, Tree.upN, Tree.knP] at h
    refine ⟨rfl, ?_⟩
    rcases wid_cases hg with rfl | rfl | rfl | rfl
    · simp only [runB, exB, ex, ev, tv, evL, chainV, chainT, get, set, Nat.beq_eq_true_eq, cond_true, cond_false, Nat.beq, ov_add, ov_app, ov_sub, ov_mul, ov_div, ov_mod, ov_pow, ov_shl, ov_shr, ov_and, ov_or, ov_xor, optT, cv_lt, cv_le, cv_gt, cv_ge, cv_eq, cv_ne, cv_in, eqv_int, eqv_bool, eqv_list, truthyV, isNoneV, nthAny, assignsL, Tree.bind, Tree.All, Option.getD, List.zip_cons_cons, List.zip_nil_left, List.cons_append, List.nil_append, ft_0, ft_1, ft_2, ft_3, ft_4, ft_5, ft_6, ft_7, ft_8, ft_9, ft_12, ft_13, ft_14, ft_15, ft_16, ft_17, ft_18, ft_19, ft_20, ft_21, ft_22, ft_23, ft_24, ft_25, ft_26, ft_27, ft_28, ft_29, ft_30, ft_31, ft_32, ft_33, ft_34, ft_35, ft_36, ft_37, ft_38, ft_40, ft_41, ft_42, ft_43, ft_44, ft_45, ft_46, ft_47, ft_48, ft_49, ft_50, ft_52, ft_53, ft_54, ft_55, ft_56, ft_57, ft_58, ft_59, ft_60, ft_61, ft_62, ft_63, gt_10, gt_11, b_tnum_cast, guard_true (show (small 8 || small 1) = true by decide), guard_true (show (decide ((0 : Int) ≤ 8 * 1) && decide ((8 : Int) * 1 ≤ 64)) = true by decide), dOnes, dTnum]
      rw [show (8 * 1 : Int).toNat = 8 from rfl, band_mask, band_mask]
      exact .inl h
    · simp only [runB, exB, ex, ev, tv, evL, chainV, chainT, get, set, Nat.beq_eq_true_eq, cond_true, cond_false, Nat.beq, ov_add, ov_app, ov_sub, ov_mul, ov_div, ov_mod, ov_pow, ov_shl, ov_shr, ov_and, ov_or, ov_xor, optT, cv_lt, cv_le, cv_gt, cv_ge, cv_eq, cv_ne, cv_in, eqv_int, eqv_bool, eqv_list, truthyV, isNoneV, nthAny, assignsL, Tree.bind, Tree.All, Option.getD, List.zip_cons_cons, List.zip_nil_left, List.cons_append, List.nil_append, ft_0, ft_1, ft_2, ft_3, ft_4, ft_5, ft_6, ft_7, ft_8, ft_9, ft_12, ft_13, ft_14, ft_15, ft_16, ft_17, ft_18, ft_19, ft_20, ft_21, ft_22, ft_23, ft_24, ft_25, ft_26, ft_27, ft_28, ft_29, ft_30, ft_31, ft_32, ft_33, ft_34, ft_35, ft_36, ft_37, ft_38, ft_40, ft_41, ft_42, ft_43, ft_44, ft_45, ft_46, ft_47, ft_48, ft_49, ft_50, ft_52, ft_53, ft_54, ft_55, ft_56, ft_57, ft_58, ft_59, ft_60, ft_61, ft_62, ft_63, gt_10, gt_11, b_tnum_cast, guard_true (show (small 8 || small 2) = true by decide), guard_true (show (decide ((0 : Int) ≤ 8 * 2) && decide ((8 : Int) * 2 ≤ 64)) = true by decide), dOnes, dTnum]
      rw [show (8 * 2 : Int).toNat = 16 from rfl, band_mask, band_mask]
      exact .inl h
    · simp only [runB, exB, ex, ev, tv, evL, chainV, chainT, get, set, Nat.beq_eq_true_eq, cond_true, cond_false, Nat.beq, ov_add, ov_app, ov_sub, ov_mul, ov_div, ov_mod, ov_pow, ov_shl, ov_shr, ov_and, ov_or, ov_xor, optT, cv_lt, cv_le, cv_gt, cv_ge, cv_eq, cv_ne, cv_in, eqv_int, eqv_bool, eqv_list, truthyV, isNoneV, nthAny, assignsL, Tree.bind, Tree.All, Option.getD, List.zip_cons_cons, List.zip_nil_left, List.cons_append, List.nil_append, ft_0, ft_1, ft_2, ft_3, ft_4, ft_5, ft_6, ft_7, ft_8, ft_9, ft_12, ft_13, ft_14, ft_15, ft_16, ft_17, ft_18, ft_19, ft_20, ft_21, ft_22, ft_23, ft_24, ft_25, ft_26, ft_27, ft_28, ft_29, ft_30, ft_31, ft_32, ft_33, ft_34, ft_35, ft_36, ft_37, ft_38, ft_40, ft_41, ft_42, ft_43, ft_44, ft_45, ft_46, ft_47, ft_48, ft_49, ft_50, ft_52, ft_53, ft_54, ft_55, ft_56, ft_57, ft_58, ft_59, ft_60, ft_61, ft_62, ft_63, gt_10, gt_11, b_tnum_cast, guard_true (show (small 8 || small 4) = true by decide), guard_true (show (decide ((0 : Int) ≤ 8 * 4) && decide ((8 : Int) * 4 ≤ 64)) = true by decide), dOnes, dTnum]
      rw [show (8 * 4 : Int).toNat = 32 from rfl, band_mask, band_mask]
      exact .inl h
    · simp only [runB, exB, ex, ev, tv, evL, chainV, chainT, get, set, Nat.beq_eq_true_eq, cond_true, cond_false, Nat.beq, ov_add, ov_app, ov_sub, ov_mul, ov_div, ov_mod, ov_pow, ov_shl, ov_shr, ov_and, ov_or, ov_xor, optT, cv_lt, cv_le, cv_gt, cv_ge, cv_eq, cv_ne, cv_in, eqv_int, eqv_bool, eqv_list, truthyV, isNoneV, nthAny, assignsL, Tree.bind, Tree.All, Option.getD, List.zip_cons_cons, List.zip_nil_left, List.cons_append, List.nil_append, ft_0, ft_1, ft_2, ft_3, ft_4, ft_5, ft_6, ft_7, ft_8, ft_9, ft_12, ft_13, ft_14, ft_15, ft_16, ft_17, ft_18, ft_19, ft_20, ft_21, ft_22, ft_23, ft_24, ft_25, ft_26, ft_27, ft_28, ft_29, ft_30, ft_31, ft_32, ft_33, ft_34, ft_35, ft_36, ft_37, ft_38, ft_40, ft_41, ft_42, ft_43, ft_44, ft_45, ft_46, ft_47, ft_48, ft_49, ft_50, ft_52, ft_53, ft_54, ft_55, ft_56, ft_57, ft_58, ft_59, ft_60, ft_61, ft_62, ft_63, gt_10, gt_11, b_tnum_cast, guard_true (show (small 8 || small 8) = true by decide), guard_true (show (decide ((0 : Int) ≤ 8 * 8) && decide ((8 : Int) * 8 ≤ 64)) = true by decide), dOnes, dTnum]
      rw [show (8 * 8 : Int).toNat = 64 from rfl, band_mask, band_mask]
      exact .inl h
  · simp only [Tree.All, Tree.upN, Tree.knP] at h
theorem band_m32 (x : Int) : Builtin.bitAnd x M32 = x % 4294967296 := band_mask x 32
theorem sim_tnum_low32 (us : List V) (pn : Pn) (K : Pn → V → Prop) (h : (dLow32 us).All pn K) : us.length = 1 ∧ (runB FT GT 30 b_tnum_low32 ([16].zip us)).All pn (Weak K) := by
  unfold dLow32 at h
  split at h
  · simp only [Tree.All, Tree.upN, Tree.knP] at h
    refine ⟨rfl, ?_⟩
    simp only [runB, exB, ex, ev, tv, evL, chainV, chainT, get, set, Nat.beq_eq_true_eq, cond_true, cond_false, Nat.beq, ov_add, ov_app, ov_sub, ov_mul, ov_div, ov_mod, ov_pow, ov_shl, ov_shr, ov_and, ov_or, ov_xor, optT, cv_lt, cv_le, cv_gt, cv_ge, cv_eq, cv_ne, cv_in, eqv_int, eqv_bool, eqv_list, truthyV, isNoneV, nthAny, assignsL, Tree.bind, Tree.All, Option.getD, List.zip_cons_cons, List.zip_nil_left, List.cons_append, List.nil_append, ft_0, ft_1, ft_2, ft_3, ft_4, ft_5, ft_6, ft_7, ft_8, ft_9, ft_12, ft_13, ft_14, ft_15, ft_16, ft_17, ft_18, ft_19, ft_20, ft_21, ft_22, ft_23, ft_24, ft_25, ft_26, ft_27, ft_28, ft_29, ft_30, ft_31, ft_32, ft_33, ft_34, ft_35, ft_36, ft_37, ft_38, ft_40, ft_41, ft_42, ft_43, ft_44, ft_45, ft_46, ft_47, ft_48, ft_49, ft_50, ft_52, ft_53, ft_54, ft_55, ft_56, ft_57, ft_58, ft_59, ft_60, ft_61, ft_62, ft_63, gt_10, gt_11, b_tnum_low32, dTnum, band_m32]
    exact .inl h
  · simp only [Tree.All, Tree.upN, Tree.knP] at h
theorem sim_tnum_with_low32 (us : List V) (pn : Pn) (K : Pn → V → Prop) (h : (dWithLow32 us).All pn K) : us.length = 2 ∧ (runB FT GT 30 b_tnum_with_low32 ([16, 2].zip us)).All pn (Weak K) := by
  unfold dWithLow32 at h
  split at h
  · simp only [Tree.All, Tree.upN, Tree.knP] at h
    refine ⟨rfl, ?_⟩
    simp only [runB, exB, ex, ev, tv, evL, chainV, chainT, get, set, Nat.beq_eq_true_eq, cond_true, cond_false, Nat.beq, ov_add, ov_app, ov_sub, ov_mul, ov_div, ov_mod, ov_pow, ov_shl, ov_shr, ov_and, ov_or, ov_xor, optT, cv_lt, cv_le, cv_gt, cv_ge, cv_eq, cv_ne, cv_in, eqv_int, eqv_bool, eqv_list, truthyV, isNoneV, nthAny, assignsL, Tree.bind, Tree.All, Option.getD, List.zip_cons_cons, List.zip_nil_left, List.cons_append, List.nil_append, ft_0, ft_1, ft_2, ft_3, ft_4, ft_5, ft_6, ft_7, ft_8, ft_9, ft_12, ft_13, ft_14, ft_15, ft_16, ft_17, ft_18, ft_19, ft_20, ft_21, ft_22, ft_23, ft_24, ft_25, ft_26, ft_27, ft_28, ft_29, ft_30, ft_31, ft_32, ft_33, ft_34, ft_35, ft_36, ft_37, ft_38, ft_40, ft_41, ft_42, ft_43, ft_44, ft_45, ft_46, ft_47, ft_48, ft_49, ft_50, ft_52, ft_53, ft_54, ft_55, ft_56, ft_57, ft_58, ft_59, ft_60, ft_61, ft_62, ft_63, gt_10, gt_11, b_tnum_with_low32, dTnum, band_m32]
    exact .inl h
  · simp only [Tree.All, Tree.upN, Tree.knP] at h
theorem sim_tnum_signed (us : List V) (pn : Pn) (K : Pn → V → Prop) (h : (dTSigned us).All pn K) : us.length = 2 ∧ (runB FT GT 30 b_tnum_signed ([16, 0].zip us)).All pn (Weak K) := by
  unfold dTSigned at h
  split at h
  · rename_i v m n
    obtain ⟨hg, h⟩ := guard_all h
    simp only [Tree.All, Tree.upN, Tree.knP] at h
    refine ⟨rfl, ?_⟩
    simp only [runB, exB, ex, ev, tv, evL, chainV, chainT, get, set, Nat.beq_eq_true_eq, cond_true, cond_false, Nat.beq, ov_add, ov_app, ov_sub, ov_mul, ov_div, ov_mod, ov_pow, ov_shl, ov_shr, ov_and, ov_or, ov_xor, optT, cv_lt, cv_le, cv_gt, cv_ge, cv_eq, cv_ne, cv_in, eqv_int, eqv_bool, eqv_list, truthyV, isNoneV, nthAny, assignsL, Tree.bind, Tree.All, Option.getD, List.zip_cons_cons, List.zip_nil_left, List.cons_append, List.nil_append, ft_0, ft_1, ft_2, ft_3, ft_4, ft_5, ft_6, ft_7, ft_8, ft_9, ft_12, ft_13, ft_14, ft_15, ft_16, ft_17, ft_18, ft_19, ft_20, ft_21, ft_22, ft_23, ft_24, ft_25, ft_26, ft_27, ft_28, ft_29, ft_30, ft_31, ft_32, ft_33, ft_34, ft_35, ft_36, ft_37, ft_38, ft_40, ft_41, ft_42, ft_43, ft_44, ft_45, ft_46, ft_47, ft_48, ft_49, ft_50, ft_52, ft_53, ft_54, ft_55, ft_56, ft_57, ft_58, ft_59, ft_60, ft_61, ft_62, ft_63, gt_10, gt_11, b_tnum_signed, guard_true hg, dTnum, dSigned, dWrap]
    exact .inl h
  · simp only [Tree.All, Tree.upN, Tree.knP] at h
theorem sim_tnum_within (us : List V) (pn : Pn) (K : Pn → V → Prop) (h : (dWithin us).All pn K) : us.length = 2 ∧ (runB FT GT 30 b_tnum_within ([16, 17].zip us)).All pn (Weak K) := by
  unfold dWithin at h
  split at h
  · rename_i v1 m1 v2 m2
    simp only [Tree.All, Tree.upN, Tree.knP] at h
    refine ⟨rfl, ?_⟩
    simp only [runB, exB, ex, ev, tv, evL, chainV, chainT, get, set, Nat.beq_eq_true_eq, cond_true, cond_false, Nat.beq, ov_add, ov_app, ov_sub, ov_mul, ov_div, ov_mod, ov_pow, ov_shl, ov_shr, ov_and, ov_or, ov_xor, optT, cv_lt, cv_le, cv_gt, cv_ge, cv_eq, cv_ne, cv_in, eqv_int, eqv_bool, eqv_list, truthyV, isNoneV, nthAny, assignsL, Tree.bind, Tree.All, Option.getD, List.zip_cons_cons, List.zip_nil_left, List.cons_append, List.nil_append, ft_0, ft_1, ft_2, ft_3, ft_4, ft_5, ft_6, ft_7, ft_8, ft_9, ft_12, ft_13, ft_14, ft_15, ft_16, ft_17, ft_18, ft_19, ft_20, ft_21, ft_22, ft_23, ft_24, ft_25, ft_26, ft_27, ft_28, ft_29, ft_30, ft_31, ft_32, ft_33, ft_34, ft_35, ft_36, ft_37, ft_38, ft_40, ft_41, ft_42, ft_43, ft_44, ft_45, ft_46, ft_47, ft_48, ft_49, ft_50, ft_52, ft_53, ft_54, ft_55, ft_56, ft_57, ft_58, ft_59, ft_60, ft_61, ft_62, ft_63, gt_10, gt_11, b_tnum_within, dContains]
    cases hb : (bor m1 m2 == m2) with
    | false =>
      rw [hb, Bool.false_and] at h
      exact .inl h
    | true =>
      rw [hb, Bool.true_and] at h
      exact .inl h
  · simp only [Tree.All, Tree.upN, Tree.knP] at h
theorem sim_tnum_meet (us : List V) (pn : Pn) (K : Pn → V → Prop) (h : (dMeet us).All pn K) : us.length = 2 ∧ (runB FT GT 30 b_tnum_meet ([16, 17].zip us)).All pn (Weak K) := by
  unfold dMeet at h
  split at h
  · rename_i v1 m1 v2 m2
    simp only [Tree.All, Tree.upN, Tree.knP] at h
    refine ⟨rfl, ?_⟩
    simp only [runB, exB, ex, ev, tv, evL, chainV, chainT, get, set, Nat.beq_eq_true_eq, cond_true, cond_false, Nat.beq, ov_add, ov_app, ov_sub, ov_mul, ov_div, ov_mod, ov_pow, ov_shl, ov_shr, ov_and, ov_or, ov_xor, optT, cv_lt, cv_le, cv_gt, cv_ge, cv_eq, cv_ne, cv_in, eqv_int, eqv_bool, eqv_list, truthyV, isNoneV, nthAny, assignsL, Tree.bind, Tree.All, Option.getD, List.zip_cons_cons, List.zip_nil_left, List.cons_append, List.nil_append, ft_0, ft_1, ft_2, ft_3, ft_4, ft_5, ft_6, ft_7, ft_8, ft_9, ft_12, ft_13, ft_14, ft_15, ft_16, ft_17, ft_18, ft_19, ft_20, ft_21, ft_22, ft_23, ft_24, ft_25, ft_26, ft_27, ft_28, ft_29, ft_30, ft_31, ft_32, ft_33, ft_34, ft_35, ft_36, ft_37, ft_38, ft_40, ft_41, ft_42, ft_43, ft_44, ft_45, ft_46, ft_47, ft_48, ft_49, ft_50, ft_52, ft_53, ft_54, ft_55, ft_56, ft_57, ft_58, ft_59, ft_60, ft_61, ft_62, ft_63, gt_10, gt_11, b_tnum_meet, dWithout]
    by_cases hb : band (bxor v1 v2) (bxor M64 (bor m1 m2)) = 0
    · rw [if_pos hb] at h
      have hb' : (Builtin.bitAnd (Builtin.bitXor v1 v2) (Builtin.bitXor M64 (Builtin.bitOr m1 m2)) != 0) = false := by simpa using hb
      simp only [hb', Tree.bind, Tree.All, Tree.upN, Tree.knP, runB, exB, ex, ev, tv, evL, chainV, chainT, get, set, Nat.beq_eq_true_eq, cond_true, cond_false, Nat.beq, ov_add, ov_app, ov_sub, ov_mul, ov_div, ov_mod, ov_pow, ov_shl, ov_shr, ov_and, ov_or, ov_xor, optT, cv_lt, cv_le, cv_gt, cv_ge, cv_eq, cv_ne, cv_in, eqv_int, eqv_bool, eqv_list, truthyV, isNoneV, nthAny, assignsL, Tree.bind, Tree.All, Option.getD, List.zip_cons_cons, List.zip_nil_left, List.cons_append, List.nil_append, ft_0, ft_1, ft_2, ft_3, ft_4, ft_5, ft_6, ft_7, ft_8, ft_9, ft_12, ft_13, ft_14, ft_15, ft_16, ft_17, ft_18, ft_19, ft_20, ft_21, ft_22, ft_23, ft_24, ft_25, ft_26, ft_27, ft_28, ft_29, ft_30, ft_31, ft_32, ft_33, ft_34, ft_35, ft_36, ft_37, ft_38, ft_40, ft_41, ft_42, ft_43, ft_44, ft_45, ft_46, ft_47, ft_48, ft_49, ft_50, ft_52, ft_53, ft_54, ft_55, ft_56, ft_57, ft_58, ft_59, ft_60, ft_61, ft_62, ft_63, gt_10, gt_11]
      exact .inl h
    · rw [if_neg hb] at h
      have hb' : (Builtin.bitAnd (Builtin.bitXor v1 v2) (Builtin.bitXor M64 (Builtin.bitOr m1 m2)) != 0) = true := by simpa using hb
      simp only [hb', Tree.bind, Tree.All, Tree.upN, Tree.knP, runB, exB, ex, ev, tv, evL, chainV, chainT, get, set, Nat.beq_eq_true_eq, cond_true, cond_false, Nat.beq, ov_add, ov_app, ov_sub, ov_mul, ov_div, ov_mod, ov_pow, ov_shl, ov_shr, ov_and, ov_or, ov_xor, optT, cv_lt, cv_le, cv_gt, cv_ge, cv_eq, cv_ne, cv_in, eqv_int, eqv_bool, eqv_list, truthyV, isNoneV, nthAny, assignsL, Tree.bind, Tree.All, Option.getD, List.zip_cons_cons, List.zip_nil_left, List.cons_append, List.nil_append, ft_0, ft_1, ft_2, ft_3, ft_4, ft_5, ft_6, ft_7, ft_8, ft_9, ft_12, ft_13, ft_14, ft_15, ft_16, ft_17, ft_18, ft_19, ft_20, ft_21, ft_22, ft_23, ft_24, ft_25, ft_26, ft_27, ft_28, ft_29, ft_30, ft_31, ft_32, ft_33, ft_34, ft_35, ft_36, ft_37, ft_38, ft_40, ft_41, ft_42, ft_43, ft_44, ft_45, ft_46, ft_47, ft_48, ft_49, ft_50, ft_52, ft_53, ft_54, ft_55, ft_56, ft_57, ft_58, ft_59, ft_60, ft_61, ft_62, ft_63, gt_10, gt_11]
      exact .inl h
  · simp only [Tree.All, Tree.upN, Tree.knP] at h
theorem sim_Tnum_span (us : List V) (pn : Pn) (K : Pn → V → Prop) (h : (dSpan us).All pn K) : us.length = 2 ∧ (runB FT GT 30 b_Tnum_span ([6, 7].zip us)).All pn (Weak K) := by
  unfold dSpan at h
  split at h
  · rename_i l m
    obtain ⟨hg, h⟩ := guard_all h
    simp only [Bool.and_eq_true] at hg
    simp only [Tree.All, Tree.upN, Tree.knP] at h
    refine ⟨rfl, ?_⟩
    have hb : bl (bxor l m) ≤ 64 := by
      have := (wordB_is hg.2)
      unfold bl
      split
      · omega
      · have h1 := this.toNat
        have : (bxor l m).toNat.log2 < 64 := (Nat.log2_lt (by omega)).mpr h1
        omega
    have g2 : (decide ((0 : Int) ≤ (bl (bxor l m) : Int)) && decide ((bl (bxor l m) : Int) ≤ 64)) = true := by simp; omega
    simp only [runB, exB, ex, ev, tv, evL, chainV, chainT, get, set, Nat.beq_eq_true_eq, cond_true, cond_false, Nat.beq, ov_add, ov_app, ov_sub, ov_mul, ov_div, ov_mod, ov_pow, ov_shl, ov_shr, ov_and, ov_or, ov_xor, optT, cv_lt, cv_le, cv_gt, cv_ge, cv_eq, cv_ne, cv_in, eqv_int, eqv_bool, eqv_list, truthyV, isNoneV, nthAny, assignsL, Tree.bind, Tree.All, Option.getD, List.zip_cons_cons, List.zip_nil_left, List.cons_append, List.nil_append, ft_0, ft_1, ft_2, ft_3, ft_4, ft_5, ft_6, ft_7, ft_8, ft_9, ft_12, ft_13, ft_14, ft_15, ft_16, ft_17, ft_18, ft_19, ft_20, ft_21, ft_22, ft_23, ft_24, ft_25, ft_26, ft_27, ft_28, ft_29, ft_30, ft_31, ft_32, ft_33, ft_34, ft_35, ft_36, ft_37, ft_38, ft_40, ft_41, ft_42, ft_43, ft_44, ft_45, ft_46, ft_47, ft_48, ft_49, ft_50, ft_52, ft_53, ft_54, ft_55, ft_56, ft_57, ft_58, ft_59, ft_60, ft_61, ft_62, ft_63, gt_10, gt_11, b_Tnum_span, guard_true hg.2, dBitCount, dOnes, guard_true g2, dTnum, Int.toNat_natCast]
    exact .inl h
  · simp only [Tree.All, Tree.upN, Tree.knP] at h
end Mine

set_option autoImplicit false
namespace Mine
open PySem
set_option maxRecDepth 10000
set_option linter.unusedSimpArgs false

theorem bl_zero : bl 0 = 0 := rfl
theorem bl_half {w : Int} (h : 0 < w) : bl w = bl (w / 2) + 1 := by
  unfold bl
  rw [if_neg (by omega)]
  by_cases h2 : w / 2 ≤ 0
  · have : w = 1 := by omega
    subst this; rfl
  · rw [if_neg h2]
    have e : (w / 2).toNat = w.toNat / 2 := by omega
    rw [e, Nat.log2_def w.toNat, if_pos (by omega)]
theorem bl_shift {w : Int} : ∀ k : Nat, 2 ^ k ≤ w → bl w = bl (w / 2 ^ k) + k
  | 0, _ => by rw [Int.pow_zero, Int.ediv_one]; rfl
  | k + 1, h => by
    have hp := pow_pos2 k
    have e : (2 : Int) ^ (k + 1) = 2 ^ k * 2 := Int.pow_succ 2 k
    have h1 : 2 ^ k ≤ w := by omega
    have h2 : 0 < w / 2 ^ k := by have := Int.le_ediv_of_mul_le hp (show 1 * 2 ^ k ≤ w by omega); omega
    rw [bl_shift k h1, bl_half h2, e, Int.ediv_ediv_of_nonneg (Int.le_of_lt hp)]
    omega
theorem bl_byte {w : Int} (h : 255 < w) : bl w = bl (w / 256) + 8 := bl_shift 8 h
theorem bl_le {w : Int} {n : Nat} (h : w < 2 ^ n) : bl w ≤ n := by
  unfold bl
  split
  · omega
  · have h1 : w.toNat < 2 ^ n := by
      have : ((2 ^ n : Nat) : Int) = (2 : Int) ^ n := by push_cast; rfl
      omega
    have : w.toNat.log2 < n := (Nat.log2_lt (by omega)).mpr h1
    omega

theorem loop_bits {c : Fs → Tree Bool} {b : Fs → Out} (hc : ∀ f w, get f.σ 1 = some (.int w) → c f = .ret (decide (w > 0)))
    (hb : ∀ f w ct, get f.σ 1 = some (.int w) → get f.σ 3 = some (.int ct) → ∃ σ', b f = .ret (⟨σ', f.own⟩, Option.none) ∧ get σ' 1 = some (.int (if w > 255 then w / 256 else w / 2)) ∧ get σ' 3 = some (.int (ct + if w > 255 then 8 else 1))) :
    ∀ (fuel : Nat) (f : Fs) (w ct : Int), get f.σ 1 = some (.int w) → get f.σ 3 = some (.int ct) → 0 ≤ w → bl w < fuel → ∃ σ', whileL c b fuel f = .ret (⟨σ', f.own⟩, Option.none) ∧ get σ' 3 = some (.int (ct + (bl w : Int)))
  | 0, _, _, _, _, _, _, h => by omega
  | n + 1, f, w, ct, h1, h3, h0, hf => by
    rw [whileL, hc f w h1]
    by_cases hw : w > 0
    · rw [decide_eq_true hw]
      obtain ⟨σ', e, g1, g3⟩ := hb f w ct h1 h3
      simp only [Tree.bind, e]
      by_cases h255 : w > 255
      · rw [if_pos h255] at g1 g3
        have hbl := bl_byte h255
        obtain ⟨σ'', e2, g⟩ := loop_bits hc hb n ⟨σ', f.own⟩ _ _ g1 g3 (by omega) (by omega)
        refine ⟨σ'', e2, ?_⟩
        rw [g, hbl]; congr 2; push_cast; omega
      · rw [if_neg h255] at g1 g3
        have hbl := bl_half (w := w) (by omega)
        obtain ⟨σ'', e2, g⟩ := loop_bits hc hb n ⟨σ', f.own⟩ _ _ g1 g3 (by omega) (by omega)
        refine ⟨σ'', e2, ?_⟩
        rw [g, hbl]; congr 2; push_cast; omega
    · rw [decide_eq_false hw]
      have : w = 0 := by omega
      subst this
      exact ⟨f.σ, rfl, by rw [h3, bl_zero]; simp⟩
theorem run_seq {F : Nat → List V → Tree V} {G : Nat → Int} {n : Nat} {f f' : Fs} {s : S} {r : List S} (h : ex F G n f s = .ret (f', Option.none)) : exB F G (n + 1) f (s :: r) = exB F G n f' r := by
  rw [exB, h]; rfl
theorem run_ret {F : Nat → List V → Tree V} {G : Nat → Int} {n : Nat} {f f' : Fs} {v : V} {s : S} {r : List S} (h : ex F G n f s = .ret (f', some v)) : exB F G (n + 1) f (s :: r) = .ret (f', some v) := by
  rw [exB, h]; rfl
theorem run_nil {F : Nat → List V → Tree V} {G : Nat → Int} {n : Nat} {f : Fs} : exB F G (n + 1) f [] = .ret (f, Option.none) := rfl
theorem run_def {F : Nat → List V → Tree V} {G : Nat → Int} {n : Nat} {b : List S} {σ : Env} {f : Fs} {v : V} {pn : Pn} {K : Pn → V → Prop} (h : exB F G n ⟨σ, Option.none⟩ b = .ret (f, some v)) (k : K pn v) : (runB F G n b σ).All pn K := by
  unfold runB; rw [h]; exact k
theorem run_while {F : Nat → List V → Tree V} {G : Nat → Int} {n : Nat} {f : Fs} {c : X} {b : List S} {o : Fs × Option V} (h : whileL (fun f => tv F G n f.σ c) (fun f => exB F G n f b) turns f = .ret o) : ex F G (n + 1) f (.whileS c b) = .ret o := h
theorem ret_var {F : Nat → List V → Tree V} {G : Nat → Int} {n i : Nat} {f : Fs} {v : V} (h : get f.σ i = some v) : ex F G (n + 2) f (.ret (.var i)) = .ret (f, some v) := by
  simp only [ex, ev, h, optT, Tree.bind]

theorem sim_bit_count (us : List V) (pn : Pn) (K : Pn → V → Prop) (h : (dBitCount us).All pn K) : us.length = 1 ∧ (runB FT GT 30 b_bit_count ([1].zip us)).All pn (Weak K) := by
  unfold dBitCount at h
  split at h
  · rename_i w
    obtain ⟨hg, h⟩ := guard_all h
    have hw := wordB_is hg
    simp only [Tree.All, Tree.upN, Tree.knP] at h
    refine ⟨rfl, ?_⟩
    obtain ⟨σ', e, g⟩ := loop_bits (c := fun f => tv FT GT 27 f.σ (.cmp .Gt (.var 1) (.int 0))) (b := fun f => exB FT GT 27 f [
      .assign 4 (.ite (.cmp .Gt (.var 1) (.int 255)) (.int 8) (.int 1)),
      .assign 1 (.bin .RShift (.var 1) (.var 4)),
      .assign 3 (.bin .Add (.var 3) (.var 4))]) (fun f w hw => by simp only [tv, ev, hw, optT, Tree.bind, cv_lt, cv_le, cv_gt, cv_ge, cv_eq, cv_ne, cv_in, eqv_int, eqv_bool, eqv_list]) (fun f w ct hw hct => by
        by_cases h255 : w > 255
        · rw [if_pos h255, if_pos h255]
          refine ⟨set (set (set f.σ 4 (.int 8)) 1 (.int (w / 256))) 3 (.int (ct + 8)), ?_, ?_, ?_⟩
          · have hd : decide (w > 255) = true := decide_eq_true h255
            have hs : decide ((0 : Int) ≤ 8) = true := by decide
            have e8 : w.fdiv (2 ^ (8 : Int).toNat) = w / 256 := fdiv_pow w 8
            refine (run_seq (f' := ⟨set f.σ 4 (.int 8), f.own⟩) (by simp only [ex, ev, tv, hw, optT, Tree.bind, cv_lt, cv_le, cv_gt, cv_ge, cv_eq, cv_ne, cv_in, eqv_int, eqv_bool, eqv_list, hd])).trans ?_
            refine (run_seq (f' := ⟨set (set f.σ 4 (.int 8)) 1 (.int (w / 256)), f.own⟩) (by simp only [ex, ev, get_set, hw, optT, Tree.bind, ov_add, ov_app, ov_sub, ov_mul, ov_div, ov_mod, ov_pow, ov_shl, ov_shr, ov_and, ov_or, ov_xor, guard_true hs, e8, if_true, if_false, Nat.reduceEqDiff])).trans ?_
            refine (run_seq (f' := ⟨set (set (set f.σ 4 (.int 8)) 1 (.int (w / 256))) 3 (.int (ct + 8)), f.own⟩) (by simp only [ex, ev, get_set, hct, optT, Tree.bind, ov_add, ov_app, ov_sub, ov_mul, ov_div, ov_mod, ov_pow, ov_shl, ov_shr, ov_and, ov_or, ov_xor, if_true, if_false, Nat.reduceEqDiff])).trans run_nil
          · simp [get_set]
          · simp [get_set]
        · rw [if_neg h255, if_neg h255]
          refine ⟨set (set (set f.σ 4 (.int 1)) 1 (.int (w / 2))) 3 (.int (ct + 1)), ?_, ?_, ?_⟩
          · have hd : decide (w > 255) = false := decide_eq_false h255
            have hs : decide ((0 : Int) ≤ 1) = true := by decide
            have e8 : w.fdiv (2 ^ (1 : Int).toNat) = w / 2 := fdiv_pow w 1
            refine (run_seq (f' := ⟨set f.σ 4 (.int 1), f.own⟩) (by simp only [ex, ev, tv, hw, optT, Tree.bind, cv_lt, cv_le, cv_gt, cv_ge, cv_eq, cv_ne, cv_in, eqv_int, eqv_bool, eqv_list, hd])).trans ?_
            refine (run_seq (f' := ⟨set (set f.σ 4 (.int 1)) 1 (.int (w / 2)), f.own⟩) (by simp only [ex, ev, get_set, hw, optT, Tree.bind, ov_add, ov_app, ov_sub, ov_mul, ov_div, ov_mod, ov_pow, ov_shl, ov_shr, ov_and, ov_or, ov_xor, guard_true hs, e8, if_true, if_false, Nat.reduceEqDiff])).trans ?_
            refine (run_seq (f' := ⟨set (set (set f.σ 4 (.int 1)) 1 (.int (w / 2))) 3 (.int (ct + 1)), f.own⟩) (by simp only [ex, ev, get_set, hct, optT, Tree.bind, ov_add, ov_app, ov_sub, ov_mul, ov_div, ov_mod, ov_pow, ov_shl, ov_shr, ov_and, ov_or, ov_xor, if_true, if_false, Nat.reduceEqDiff])).trans run_nil
          · simp [get_set]
          · simp [get_set]) turns ⟨[(1, .int w), (3, .int 0)], Option.none⟩ w 0 rfl rfl hw.1 (by have := bl_le (n := 64) hw.2; show bl w < 70; omega)
    refine run_def (f := ⟨σ', Option.none⟩) (v := .int (bl w)) ?_ (.inl h)
    refine (run_seq (f' := ⟨[(1, .int w), (3, .int 0)], Option.none⟩) rfl).trans ?_
    refine (run_seq (f' := ⟨σ', Option.none⟩) (run_while e)).trans ?_
    rw [Int.zero_add] at g
    exact run_ret (ret_var g)
  · simp only [Tree.All, Tree.upN, Tree.knP] at h

theorem low_bit {r : Int} (hw : Wd 64 r) (h : 0 < r) : ∃ p, p < 64 ∧ tb r p = true ∧ ∀ j, j < p → tb r j = false := by
  have h1 : ∃ k, k < 64 ∧ tb r k = true := by
    refine Classical.byContradiction fun hn => ?_
    have : r = 0 := Wd.ext hw (y := 0) ⟨by decide, by decide⟩ fun k hk => by
      rw [tb_zero]
      cases q : tb r k with
      | false => rfl
      | true => exact absurd ⟨k, hk, q⟩ hn
    omega
  obtain ⟨k, hk, ht⟩ := h1
  induction k using Nat.strongRecOn with
  | ind k ih =>
    by_cases hj : ∃ j, j < k ∧ tb r j = true
    · obtain ⟨j, hj, hjt⟩ := hj
      exact ih j hj (by omega) hjt
    · refine ⟨k, hk, ht, fun j hlt => ?_⟩
      cases q : tb r j with
      | false => rfl
      | true => exact absurd ⟨j, hlt, q⟩ hj
theorem mod_zero {r : Int} : ∀ {k : Nat}, (∀ j, j < k → tb r j = false) → r % 2 ^ k = 0
  | 0, _ => by simp [Int.emod_one]
  | k + 1, h => by
    rw [mod_succ, mod_zero fun j hj => h j (by omega), h k (by omega)]; rfl
theorem mod_pos {r : Int} {p : Nat} (hp : tb r p = true) : ∀ {k : Nat}, p < k → 0 < r % 2 ^ k
  | 0, h => by omega
  | k + 1, h => by
    rw [mod_succ]
    have h0 := Int.emod_nonneg r (Int.ne_of_gt (pow_pos2 k))
    have hq := pow_pos2 k
    by_cases hk : p = k
    · subst hk; rw [hp]; simp; omega
    · have := mod_pos hp (show p < k by omega)
      cases tb r k <;> simp <;> omega
theorem tb_one (k : Nat) : tb 1 k = decide (k = 0) := tb_pow 0 k
theorem tb_pred {r : Int} {p : Nat} (hp : tb r p = true) (hl : ∀ j, j < p → tb r j = false) (k : Nat) : tb (r - 1) k = if k < p then true else if k = p then false else tb r k := by
  rw [tb_sub, tb_one]
  cases k with
  | zero =>
    have : decide (r % 2 ^ 0 < 1 % 2 ^ 0) = false := by simp [Int.emod_one]
    rw [this]
    by_cases h : 0 < p
    · rw [if_pos h, hl 0 h]; rfl
    · have : p = 0 := by omega
      subst this
      rw [if_neg (by omega), if_pos rfl, hp]; rfl
  | succ k =>
    have e1 : (1 : Int) % 2 ^ (k + 1) = 1 := Int.emod_eq_of_lt (by decide) (by rw [Int.pow_succ]; have := pow_pos2 k; omega)
    rw [e1, decide_eq_false (show ¬ k + 1 = 0 by omega), Bool.xor_false]
    by_cases h : k + 1 < p
    · rw [if_pos h, hl _ h, mod_zero fun j hj => hl j (by omega)]; rfl
    · rw [if_neg h]
      by_cases h2 : k + 1 = p
      · rw [if_pos h2, h2, hp, mod_zero hl]; rfl
      · rw [if_neg h2]
        have := mod_pos hp (show p < k + 1 by omega)
        rw [decide_eq_false (by omega), Bool.xor_false]
theorem neg_is (r : Int) : -r = -(r - 1) - 1 := by omega
theorem wd_pow {p : Nat} (hp : p < 64) : Wd 64 (2 ^ p) := by
  refine ⟨Int.le_of_lt (pow_pos2 p), ?_⟩
  have e : (2 : Int) ^ 64 = 2 ^ p * (2 * 2 ^ (64 - p - 1)) := by
    have e0 : 64 = p + (1 + (64 - p - 1)) := by omega
    conv => lhs; rw [e0, pow_split, pow_split]
    rfl
  rw [e]
  have h1 := pow_pos2 p
  have h2 := pow_pos2 (64 - p - 1)
  have := Int.mul_le_mul_of_nonneg_left (show (2 : Int) ≤ 2 * 2 ^ (64 - p - 1) by omega) (Int.le_of_lt h1)
  omega
theorem band_neg {r : Int} (hw : Wd 64 r) {p : Nat} (h64 : p < 64) (hp : tb r p = true) (hl : ∀ j, j < p → tb r j = false) : Builtin.bitAnd r (-r) = 2 ^ p := by
  refine Wd.ext hw.band (wd_pow h64) fun k hk => ?_
  rw [tb_band, neg_is, tb_not, tb_pred hp hl, tb_pow]
  by_cases h : k < p
  · rw [if_pos h, hl k h, decide_eq_false (by omega)]; rfl
  · rw [if_neg h]
    by_cases h2 : k = p
    · rw [if_pos h2, h2, hp, decide_eq_true rfl]; rfl
    · rw [if_neg h2, decide_eq_false h2]; cases tb r k <;> rfl
theorem bl_pow (p : Nat) : bl (2 ^ p) = p + 1 := by
  unfold bl
  have h := pow_pos2 p
  rw [if_neg (by omega)]
  have : ((2 : Int) ^ p).toNat = 2 ^ p := by
    have : ((2 ^ p : Nat) : Int) = (2 : Int) ^ p := by push_cast; rfl
    omega
  rw [this, Nat.log2_two_pow]
theorem bits_is (m : Int) : bitsOf m = (List.range 64).filter fun k => tb m k := rfl
theorem bits_cons {r r' : Int} {p : Nat} (h64 : p < 64) (hp : tb r p = true) (hl : ∀ j, j < p → tb r j = false) (hr : ∀ k, tb r' k = (tb r k && !decide (k = p))) : bitsOf r = p :: bitsOf r' := by
  have e : List.range 64 = List.range p ++ p :: List.range' (p + 1) (64 - p - 1) := by
    have h := List.range'_append_1 (s := 0) (m := p) (n := 64 - p - 1 + 1)
    rw [Nat.zero_add] at h
    rw [List.range_eq_range', List.range_eq_range', ← List.range'_succ, h]
    congr 1; omega
  rw [bits_is, bits_is, e, List.filter_append, List.filter_append]
  have z1 : (List.range p).filter (fun k => tb r k) = [] := by
    rw [List.filter_eq_nil_iff]; intro k hk; rw [hl k (List.mem_range.mp hk)]; simp
  have z2 : (List.range p).filter (fun k => tb r' k) = [] := by
    rw [List.filter_eq_nil_iff]; intro k hk; rw [hr, hl k (List.mem_range.mp hk)]; simp
  rw [z1, z2, List.nil_append, List.nil_append, List.filter_cons_of_pos (by simpa using hp), List.filter_cons_of_neg (by rw [hr]; simp)]
  congr 1
  refine List.filter_congr fun k hk => ?_
  have := (List.mem_range'_1.mp hk).1
  rw [hr, decide_eq_false (by omega)]; simp
theorem bits_zero : bitsOf 0 = [] := by decide +kernel
theorem bits_len (m : Int) : (bitsOf m).length ≤ 64 := by
  have := List.length_filter_le (fun k => tb m k) (List.range 64)
  rw [List.length_range] at this
  exact this

theorem loop_free {c : Fs → Tree Bool} {b : Fs → Out} (hc : ∀ f w, get f.σ 11 = some (.int w) → c f = .ret (decide (w > 0)))
    (hb : ∀ f w vs, get f.σ 11 = some (.int w) → f.own = some (10, vs) → Wd 64 w → 0 < w → vs.length ≤ 64 → ∃ σ', b f = .ret (⟨σ', some (10, vs ++ [.int (bl (Builtin.bitAnd w (-w)) - 1)])⟩, Option.none) ∧ get σ' 11 = some (.int (Builtin.bitAnd w (w - 1)))) :
    ∀ (fuel : Nat) (f : Fs) (w : Int) (vs : List V), get f.σ 11 = some (.int w) → f.own = some (10, vs) → Wd 64 w → (bitsOf w).length < fuel → vs.length + (bitsOf w).length ≤ 64 → ∃ σ', whileL c b fuel f = .ret (⟨σ', some (10, vs ++ (bitsOf w).map fun k : Nat => V.int (k : Int))⟩, Option.none)
  | 0, _, _, _, _, _, _, h, _ => by omega
  | n + 1, f, w, vs, h1, h2, h3, h4, h5 => by
    rw [whileL, hc f w h1]
    by_cases hw : w > 0
    · rw [decide_eq_true hw]
      obtain ⟨p, p64, hp, hl⟩ := low_bit h3 hw
      obtain ⟨σ', e, g1⟩ := hb f w vs h1 h2 h3 hw (by omega)
      simp only [Tree.bind, e]
      have hcons : bitsOf w = p :: bitsOf (Builtin.bitAnd w (w - 1)) := bits_cons p64 hp hl fun k => by
        rw [tb_band, tb_pred hp hl]
        by_cases h : k < p
        · rw [if_pos h, hl k h]; rfl
        · rw [if_neg h]
          by_cases h2 : k = p
          · rw [if_pos h2, decide_eq_true h2]; simp
          · rw [if_neg h2, decide_eq_false h2]; cases tb w k <;> rfl
      rw [hcons] at h4 h5 ⊢
      simp only [List.length_cons] at h4 h5
      rw [band_neg h3 p64 hp hl, bl_pow] at e
      obtain ⟨σ'', e2⟩ := loop_free hc hb n ⟨σ', some (10, vs ++ [.int ((bl (Builtin.bitAnd w (-w)) : Int) - 1)])⟩ _ _ g1 rfl h3.band (by omega) (by simp; omega)
      refine ⟨σ'', e2.trans ?_⟩
      rw [band_neg h3 p64 hp hl, bl_pow]
      simp
    · rw [decide_eq_false hw]
      have : w = 0 := by have := h3.1; omega
      subst this
      refine ⟨f.σ, ?_⟩
      rw [bits_zero]
      simp [Tree.bind]
      rw [← h2]
theorem sim_Tnum_free_bits (us : List V) (pn : Pn) (K : Pn → V → Prop) (h : (dFree us).All pn K) : us.length = 1 ∧ (runB FT GT 30 b_Tnum_free_bits ([8].zip us)).All pn (Weak K) := by
  unfold dFree at h
  split at h
  · rename_i v m
    obtain ⟨hg, h⟩ := guard_all h
    have hw := wordB_is hg
    simp only [Tree.All, Tree.upN, Tree.knP] at h
    refine ⟨rfl, ?_⟩
    obtain ⟨σ', e⟩ := loop_free (c := fun f => tv FT GT 27 f.σ (.cmp .Gt (.var 11) (.int 0))) (b := fun f => exB FT GT 27 f [
        .append 10 (.bin .Sub (.call 16 [(.bin .BitAnd (.var 11) (.neg (.var 11)))]) (.int 1)),
        .assign 11 (.bin .BitAnd (.var 11) (.bin .Sub (.var 11) (.int 1)))]) (fun f w hw => by simp only [tv, ev, hw, optT, Tree.bind, cv_lt, cv_le, cv_gt, cv_ge, cv_eq, cv_ne, cv_in, eqv_int, eqv_bool, eqv_list]) (fun f w vs hw ho hwd h0 hlen => by
          have g1 : wordB (Builtin.bitAnd w (-w)) = true := wd_wordB hwd.band
          have g2 : decide (vs.length ≤ 1000000) = true := by simp; omega
          refine ⟨set f.σ 11 (.int (Builtin.bitAnd w (w - 1))), ?_, by repeat (first | exact get_eq | refine get_ne rfl ?_)⟩
          refine (run_seq (f' := ⟨f.σ, some (10, vs ++ [.int ((bl (Builtin.bitAnd w (-w)) : Int) - 1)])⟩) ?_).trans ?_
          · simp only [ex, ho, Nat.beq_refl, cond_true, ev, evL, hw, optT, Tree.bind, ov_add, ov_app, ov_sub, ov_mul, ov_div, ov_mod, ov_pow, ov_shl, ov_shr, ov_and, ov_or, ov_xor, ft_0, ft_1, ft_2, ft_3, ft_4, ft_5, ft_6, ft_7, ft_8, ft_9, ft_12, ft_13, ft_14, ft_15, ft_16, ft_17, ft_18, ft_19, ft_20, ft_21, ft_22, ft_23, ft_24, ft_25, ft_26, ft_27, ft_28, ft_29, ft_30, ft_31, ft_32, ft_33, ft_34, ft_35, ft_36, ft_37, ft_38, ft_40, ft_41, ft_42, ft_43, ft_44, ft_45, ft_46, ft_47, ft_48, ft_49, ft_50, ft_52, ft_53, ft_54, ft_55, ft_56, ft_57, ft_58, ft_59, ft_60, ft_61, ft_62, ft_63, dBitCount, guard_true g1, guard_true g2]
          · exact (run_seq (f' := ⟨set f.σ 11 (.int (Builtin.bitAnd w (w - 1))), some (10, vs ++ [.int ((bl (Builtin.bitAnd w (-w)) : Int) - 1)])⟩) (by simp only [ex, ev, hw, optT, Tree.bind, ov_add, ov_app, ov_sub, ov_mul, ov_div, ov_mod, ov_pow, ov_shl, ov_shr, ov_and, ov_or, ov_xor])).trans run_nil) turns ⟨[(8, .tnum v m), (11, .int m)], some (10, [])⟩ m [] rfl rfl hw (by have := bits_len m; show _ < 70; omega) (by have := bits_len m; simpa using this)
    refine run_def (f := ⟨set σ' 10 (.list ((bitsOf m).map fun k : Nat => V.int (k : Int))), Option.none⟩) ?_ (.inl h)
    refine (run_seq (f' := ⟨[(8, .tnum v m), (11, .int m)], some (10, [])⟩) rfl).trans ?_
    refine (run_seq (f' := ⟨σ', some (10, (bitsOf m).map fun k : Nat => V.int (k : Int))⟩) (run_while e)).trans ?_
    refine (run_seq (f' := ⟨set σ' 10 (.list ((bitsOf m).map fun k : Nat => V.int (k : Int))), Option.none⟩) rfl).trans ?_
    exact run_ret (ret_var (get_eq))
  · simp only [Tree.All, Tree.upN, Tree.knP] at h
end Mine

set_option autoImplicit false
namespace Mine
open PySem
set_option maxRecDepth 10000
set_option linter.unusedSimpArgs false

section
variable {F : Nat → List V → Tree V} {G : Nat → Int}
theorem all_seq {n : Nat} {f : Fs} {s : S} {r : List S} {pn : Pn} {K : Pn → Fs × Option V → Prop} (h : (ex F G n f s).All pn fun q o => o.2 = Option.none ∧ (exB F G n o.1 r).All q K) : (exB F G (n + 1) f (s :: r)).All pn K := by
  rw [exB]
  refine Tree.all_bind_of _ _ (Tree.all_mono _ _ h fun q o ho => ?_)
  obtain ⟨f', v⟩ := o
  obtain ⟨rfl, h2⟩ := ho
  exact h2
theorem all_end {n : Nat} {f : Fs} {s : S} {r : List S} {pn : Pn} {K : Pn → Fs × Option V → Prop} (h : (ex F G n f s).All pn fun q o => o.2.isSome = true ∧ K q o) : (exB F G (n + 1) f (s :: r)).All pn K := by
  rw [exB]
  refine Tree.all_bind_of _ _ (Tree.all_mono _ _ h fun q o ho => ?_)
  obtain ⟨f', v⟩ := o
  obtain ⟨h1, h2⟩ := ho
  cases v with
  | none => cases h1
  | some v => exact h2
theorem all_def {n : Nat} {b : List S} {σ : Env} {pn : Pn} {K : Pn → V → Prop} (h : (exB F G n ⟨σ, Option.none⟩ b).All pn fun q o => K q (o.2.getD .none)) : (runB F G n b σ).All pn K := by
  unfold runB
  exact Tree.all_bind_of _ _ h
theorem all_forL {b : V → Fs → Out} {K : Pn → Fs × Option V → Prop} (Inv : List V → Fs → Pn → Prop) (turn : ∀ v r f pn, Inv (v :: r) f pn → (b v f).All pn fun q o => o.2 = Option.none ∧ Inv r o.1 q) (fin : ∀ f q, Inv [] f q → K q (f, Option.none)) : ∀ (items : List V) (f : Fs) (pn : Pn), Inv items f pn → (forL b items f).All pn K
  | [], f, pn, h => fin f pn h
  | v :: r, f, pn, h => by
    rw [forL]
    refine Tree.all_bind_of _ _ (Tree.all_mono _ _ (turn v r f pn h) fun q o ho => ?_)
    obtain ⟨f', u⟩ := o
    obtain ⟨rfl, h2⟩ := ho
    exact all_forL Inv turn fin r f' q h2
/-- a for loop over a list that is at hand -/
theorem all_for {n x : Nat} {f : Fs} {src : X} {b : List S} {pn : Pn} {K : Pn → Fs × Option V → Prop} {s : V} {items : List V} (hsrc : ev F G n f.σ src = .ret s) (hw : walkable s = true) (hi : itemsV s = some items) (Inv : List V → Fs → Pn → Prop) (h0 : Inv items f pn)
    (turn : ∀ v r f pn, Inv (v :: r) f pn → (exB F G n ⟨set f.σ x v, f.own⟩ b).All pn fun q o => o.2 = Option.none ∧ Inv r o.1 q) (fin : ∀ f q, Inv [] f q → K q (f, Option.none)) : (ex F G (n + 1) f (.forS false [x] src b)).All pn K := by
  rw [ex, hsrc]
  simp only [Tree.bind, hw, hi, bindT_1]
  exact all_forL Inv turn fin items f pn h0
/-- a for loop over range(w) -/
theorem all_range_for {n x w : Nat} {f : Fs} {src : X} {b : List S} {pn : Pn} {K : Pn → Fs × Option V → Prop} (hsrc : ev F G n f.σ src = .ret (.rng 0 (w : Int))) (hw : w ≤ 1000) (Inv : Nat → Fs → Pn → Prop) (h0 : Inv 0 f pn)
    (turn : ∀ i f pn, i < w → Inv i f pn → (exB F G n ⟨set f.σ x (.int (i : Int)), f.own⟩ b).All pn fun q o => o.2 = Option.none ∧ Inv (i + 1) o.1 q) (fin : ∀ f q, Inv w f q → K q (f, Option.none)) : (ex F G (n + 1) f (.forS false [x] src b)).All pn K := by
  have hwalk : walkable (.rng 0 (w : Int)) = true := by
    simp only [walkable, Bool.and_eq_true, decide_eq_true_eq]
    have : (2 : Int) ^ 62 = 4611686018427387904 := by decide
    omega
  have hitems : itemsV (.rng 0 (w : Int)) = some ((List.range' 0 w).map fun i : Nat => V.int (i : Int)) := by
    simp only [itemsV]
    have e : (fun i : Nat => V.int (0 + (i : Int))) = fun i : Nat => V.int (i : Int) := funext fun i => by rw [Int.zero_add]
    rw [show ((w : Int) - 0).toNat = w by omega, List.range_eq_range', e]
  refine all_for hsrc hwalk hitems (fun items f pn => ∃ i, i ≤ w ∧ items = (List.range' i (w - i)).map (fun i : Nat => V.int (i : Int)) ∧ Inv i f pn) ⟨0, Nat.zero_le _, by simp, h0⟩ (fun v r f pn h => ?_) (fun f q h => ?_)
  · obtain ⟨i, hi, e, h⟩ := h
    have hlt : i < w := by
      refine Decidable.byContradiction fun hn => ?_
      have : w - i = 0 := by omega
      rw [this] at e; simp at e
    have e2 : w - i = (w - (i + 1)) + 1 := by omega
    rw [e2, List.range'_succ, List.map_cons] at e
    obtain ⟨rfl, rfl⟩ := List.cons.inj e
    exact Tree.all_mono _ _ (turn i f pn hlt h) fun q o ho => ⟨ho.1, i + 1, hlt, rfl, ho.2⟩
  · obtain ⟨i, hi, e, h⟩ := h
    have : i = w := by
      refine Decidable.byContradiction fun hn => ?_
      have e2 : w - i = (w - (i + 1)) + 1 := by omega
      rw [e2, List.range'_succ] at e; simp at e
    subst this
    exact fin f q h
end

theorem turn_succ (x : Int) (w : Nat) : turn x (w + 1) = turn x w * 256 + x / 256 ^ w % 256 := by
  unfold turn
  rw [List.range_succ, List.foldl_append]
  rfl
theorem turn_wd (x : Int) : ∀ w, 0 ≤ turn x w ∧ turn x w < 256 ^ w
  | 0 => by simp [turn]
  | w + 1 => by
    obtain ⟨h1, h2⟩ := turn_wd x w
    rw [turn_succ, Int.pow_succ]
    have h3 := Int.emod_nonneg (x / 256 ^ w) (show (256 : Int) ≠ 0 by decide)
    have h4 := Int.emod_lt_of_pos (x / 256 ^ w) (show (0 : Int) < 256 by decide)
    omega
theorem pow256 (n : Nat) : (256 : Int) ^ n = 2 ^ (8 * n) := by
  rw [Int.pow_mul]; rfl
theorem bor_low {t b : Int} (ht : 0 ≤ t) (hb : 0 ≤ b) (h : b < 256) : Builtin.bitOr (t * 256) b = t * 256 + b := by
  rw [bor_nat (by omega) hb]
  have h1 : b.toNat < 2 ^ 8 := by omega
  have h2 := Nat.two_pow_add_eq_or_of_lt h1 t.toNat
  have h3 : (t * 256).toNat = 2 ^ 8 * t.toNat := by omega
  rw [h3, ← h2]
  omega
theorem band_255 (x : Int) : Builtin.bitAnd x 255 = x % 256 := band_mask x 8
theorem pow_256_le {i w : Nat} (h : i ≤ w) : (256 : Int) ^ i ≤ 256 ^ w := by
  have e : w = i + (w - i) := by omega
  rw [e, Int.pow_add]
  have h1 : (0 : Int) < 256 ^ i := Int.pow_pos (by decide)
  have h2 : (0 : Int) < 256 ^ (w - i) := Int.pow_pos (by decide)
  have := Int.mul_le_mul_of_nonneg_left (show (1 : Int) ≤ 256 ^ (w - i) by omega) (Int.le_of_lt h1)
  omega
theorem sim_tnum_turned (us : List V) (pn : Pn) (K : Pn → V → Prop) (h : (dTTurned us).All pn K) : us.length = 2 ∧ (runB FT GT 30 b_tnum_turned ([16, 9].zip us)).All pn (Weak K) := by
  unfold dTTurned at h
  split at h
  · rename_i v m w
    obtain ⟨hg, h⟩ := guard_all h
    simp only [Bool.and_eq_true] at hg
    obtain ⟨⟨g1, g2⟩, g3⟩ := hg
    have hv := wordB_is g2
    have hm := wordB_is g3
    simp only [Tree.All, Tree.upN, Tree.knP] at h
    refine ⟨rfl, ?_⟩
    obtain ⟨k, rfl, hk⟩ : ∃ k : Nat, w = (k : Int) ∧ k ≤ 8 := ⟨w.toNat, by rcases wid_cases g1 with rfl | rfl | rfl | rfl <;> rfl, by rcases wid_cases g1 with rfl | rfl | rfl | rfl <;> decide⟩
    generalize hσ : List.zip _ _ = σ
    have f16 : get σ 16 = some (.tnum v m) := by rw [← hσ]; rfl
    have f9 : get σ 9 = some (.int k) := by rw [← hσ]; rfl
    refine all_def ?_
    unfold b_tnum_turned
    refine all_seq ?_
    simp only [ex, evL, ev, Tree.bind, assignsL, Tree.All, Tree.upN, Tree.knP]
    refine ⟨trivial, ?_⟩
    refine all_seq (all_range_for (w := k) (by simp only [ev, evL, get_set, f9, optT, Tree.bind, ft_0, ft_1, ft_2, ft_3, ft_4, ft_5, ft_6, ft_7, ft_8, ft_9, ft_12, ft_13, ft_14, ft_15, ft_16, ft_17, ft_18, ft_19, ft_20, ft_21, ft_22, ft_23, ft_24, ft_25, ft_26, ft_27, ft_28, ft_29, ft_30, ft_31, ft_32, ft_33, ft_34, ft_35, ft_36, ft_37, ft_38, ft_40, ft_41, ft_42, ft_43, ft_44, ft_45, ft_46, ft_47, ft_48, ft_49, ft_50, ft_52, ft_53, ft_54, ft_55, ft_56, ft_57, ft_58, ft_59, ft_60, ft_61, ft_62, ft_63, dRange, if_false, Nat.reduceEqDiff]) (by omega) (fun i f q => q = pn ∧ get f.σ 16 = some (.tnum v m) ∧ get f.σ 12 = some (.int (turn v i)) ∧ get f.σ 13 = some (.int (turn m i))) ⟨rfl, by repeat (first | exact get_eq | exact f16 | refine get_ne rfl ?_), by simp [get_set, turn], by simp [get_set, turn]⟩ (fun i f q hi hf => ?_) (fun f q hf => ⟨rfl, ?_⟩))
    · obtain ⟨rfl, f16, f12, f13⟩ := hf
      have sm : ∀ x, small (turn x i) = true := fun x => by
        obtain ⟨h1, h2⟩ := turn_wd x i
        have h3 := pow_256_le (show i ≤ 8 by omega)
        have : (256 : Int) ^ 8 = 18446744073709551616 := by decide
        exact small_of ⟨h1, by omega⟩
      have gl : ∀ x, (decide ((0 : Int) ≤ 8) && decide ((8 : Int) ≤ 1000000) && small (turn x i)) = true := fun x => by rw [sm]; decide
      have gr : decide ((0 : Int) ≤ 8 * (i : Int)) = true := by simp; omega
      have gm : (small 8 || small (i : Int)) = true := by rw [show small 8 = true by decide]; rfl
      have e8 : ∀ x : Int, x.fdiv (2 ^ (8 * (i : Int)).toNat) = x / 256 ^ i := fun x => by
        rw [fdiv_pow, pow256]; congr 2
      have eb : ∀ x : Int, Builtin.bitOr (turn x i * 2 ^ (8 : Int).toNat) (Builtin.bitAnd (x / 256 ^ i) 255) = turn x (i + 1) := fun x => by
        rw [band_255, turn_succ]
        exact bor_low (turn_wd x i).1 (Int.emod_nonneg _ (by decide)) (Int.emod_lt_of_pos _ (by decide))
      refine all_seq ?_
      simp only [ex, ev, evL, get_set, f16, f12, f13, optT, Tree.bind, ov_add, ov_app, ov_sub, ov_mul, ov_div, ov_mod, ov_pow, ov_shl, ov_shr, ov_and, ov_or, ov_xor, guard_true (gl v), guard_true gr, guard_true gm, e8, eb, Tree.All, Tree.upN, Tree.knP, if_true, if_false, Nat.reduceEqDiff, true_and]
      refine all_seq ?_
      simp only [ex, ev, evL, get_set, f16, f12, f13, optT, Tree.bind, ov_add, ov_app, ov_sub, ov_mul, ov_div, ov_mod, ov_pow, ov_shl, ov_shr, ov_and, ov_or, ov_xor, guard_true (gl m), guard_true gr, guard_true gm, e8, eb, Tree.All, Tree.upN, Tree.knP, if_true, if_false, Nat.reduceEqDiff, true_and]
      exact ⟨rfl, rfl, by repeat (first | exact get_eq | exact f16 | refine get_ne rfl ?_), by repeat (first | exact get_eq | refine get_ne rfl ?_), by repeat (first | exact get_eq | refine get_ne rfl ?_)⟩
    · obtain ⟨rfl, f16, f12, f13⟩ := hf
      refine all_end ?_
      simp only [ex, ev, evL, f12, f13, optT, Tree.bind, ft_0, ft_1, ft_2, ft_3, ft_4, ft_5, ft_6, ft_7, ft_8, ft_9, ft_12, ft_13, ft_14, ft_15, ft_16, ft_17, ft_18, ft_19, ft_20, ft_21, ft_22, ft_23, ft_24, ft_25, ft_26, ft_27, ft_28, ft_29, ft_30, ft_31, ft_32, ft_33, ft_34, ft_35, ft_36, ft_37, ft_38, ft_40, ft_41, ft_42, ft_43, ft_44, ft_45, ft_46, ft_47, ft_48, ft_49, ft_50, ft_52, ft_53, ft_54, ft_55, ft_56, ft_57, ft_58, ft_59, ft_60, ft_61, ft_62, ft_63, dTnum, Tree.All, Tree.upN, Tree.knP]
      exact ⟨rfl, .inl h⟩
  · simp only [Tree.All, Tree.upN, Tree.knP] at h
end Mine

set_option autoImplicit false
namespace Mine
open PySem
set_option maxRecDepth 10000
set_option linter.unusedSimpArgs false

theorem wd_small {d : Int} (h0 : 0 ≤ d) (h1 : d < 256) : Wd 64 d := by
  have : (2 : Int) ^ 64 = 18446744073709551616 := by decide
  exact ⟨h0, by omega⟩
theorem any_all {α : Type} {m : Nat} {P : V → Prop} {k : V → Tree α} {pn : Pn} {K : Pn → α → Prop} (h : (Tree.any m P k).All pn K) : ∃ n, pn = .upto n ∧ n + m ≤ 1000 ∧ ∀ v, P v → (k v).All (.upto (n + m)) K := by
  cases pn with
  | upto n => simp only [Tree.All, Tree.upN, Tree.knP] at h; exact ⟨n, rfl, h.1, h.2⟩
  | none => simp only [Tree.All, Tree.upN, Tree.knP] at h
  | known => simp only [Tree.All, Tree.upN, Tree.knP] at h
theorem weak_up {K : Pn → V → Prop} {n n' : Nat} {v : V} (hn : n ≤ n') (h : K (.upto n') v) : Weak K (.upto n) v := .inr ⟨n, n', hn, rfl, h⟩

section
variable {F : Nat → List V → Tree V} {G : Nat → Int}
theorem all_nil {n : Nat} {f : Fs} {pn : Pn} {K : Pn → Fs × Option V → Prop} (h : K pn (f, Option.none)) : (exB F G (n + 1) f []).All pn K := h
theorem all_ifret {n : Nat} {f : Fs} {c : X} {t r : List S} {b : Bool} {pn : Pn} {K : Pn → Fs × Option V → Prop} (hc : tv F G (n + 1) f.σ c = .ret b) (ht : b = true → (exB F G (n + 1) f t).All pn fun q o => o.2.isSome = true ∧ K q o) (he : b = false → (exB F G (n + 2) f r).All pn K) : (exB F G (n + 3) f (.ifS c t [] :: r)).All pn K := by
  rw [exB, ex, hc]
  cases b with
  | true =>
    refine Tree.all_bind_of _ _ (Tree.all_mono _ _ (ht rfl) fun q o ho => ?_)
    obtain ⟨f', v⟩ := o
    obtain ⟨h1, h2⟩ := ho
    cases v with
    | none => cases h1
    | some v => exact h2
  | false => exact he rfl
end
theorem draw_ok {α : Type} (m : Int) (h : (decide (0 < m) && decide (m ≤ 65536)) = true) (t : Tree α) : guard (decide (0 < m) && decide (m ≤ 65536)) t = t := guard_true h t
theorem draw_2 {α : Type} (t : Tree α) : guard (decide ((0 : Int) < 2) && decide ((2 : Int) ≤ 65536)) t = t := draw_ok 2 rfl t
theorem draw_3 {α : Type} (t : Tree α) : guard (decide ((0 : Int) < 3) && decide ((3 : Int) ≤ 65536)) t = t := draw_ok 3 rfl t
theorem draw_4 {α : Type} (t : Tree α) : guard (decide ((0 : Int) < 4) && decide ((4 : Int) ≤ 65536)) t = t := draw_ok 4 rfl t
theorem draw_8 {α : Type} (t : Tree α) : guard (decide ((0 : Int) < 8) && decide ((8 : Int) ≤ 65536)) t = t := draw_ok 8 rfl t
theorem draw_24 {α : Type} (t : Tree α) : guard (decide ((0 : Int) < 24) && decide ((24 : Int) ≤ 65536)) t = t := draw_ok 24 rfl t
theorem draw_32 {α : Type} (t : Tree α) : guard (decide ((0 : Int) < 32) && decide ((32 : Int) ≤ 65536)) t = t := draw_ok 32 rfl t
theorem draw_64 {α : Type} (t : Tree α) : guard (decide ((0 : Int) < 64) && decide ((64 : Int) ≤ 65536)) t = t := draw_ok 64 rfl t
theorem draw_256 {α : Type} (t : Tree α) : guard (decide ((0 : Int) < 256) && decide ((256 : Int) ≤ 65536)) t = t := draw_ok 256 rfl t
theorem draw_65536 {α : Type} (t : Tree α) : guard (decide ((0 : Int) < 65536) && decide ((65536 : Int) ≤ 65536)) t = t := draw_ok 65536 rfl t
theorem sim_law_pick (us : List V) (pn : Pn) (K : Pn → V → Prop) (h : (dPick us).All pn K) : us.length = 2 ∧ (runB FT GT 30 b_law_pick ([29, 31].zip us)).All pn (Weak K) := by
  unfold dPick at h
  split at h
  · rename_i xs
    obtain ⟨⟨hne, hlen⟩, h⟩ := need_all h
    obtain ⟨n, rfl, hn, hk⟩ := any_all h
    refine ⟨rfl, ?_⟩
    generalize hσ : List.zip _ _ = σ
    have f29 : get σ 29 = some .pen := by rw [← hσ]; rfl
    have f31 : get σ 31 = some (.list xs) := by rw [← hσ]; rfl
    refine all_def ?_
    unfold b_law_pick
    refine all_end ?_
    have hpos : 0 < xs.length := List.length_pos_iff.mpr hne
    have gd : (decide ((0 : Int) < (xs.length : Int)) && decide ((xs.length : Int) ≤ 65536)) = true := by simp only [Bool.and_eq_true, decide_eq_true_eq]; omega
    simp only [ex, ev, evL, f29, f31, optT, Tree.bind, ft_0, ft_1, ft_2, ft_3, ft_4, ft_5, ft_6, ft_7, ft_8, ft_9, ft_12, ft_13, ft_14, ft_15, ft_16, ft_17, ft_18, ft_19, ft_20, ft_21, ft_22, ft_23, ft_24, ft_25, ft_26, ft_27, ft_28, ft_29, ft_30, ft_31, ft_32, ft_33, ft_34, ft_35, ft_36, ft_37, ft_38, ft_40, ft_41, ft_42, ft_43, ft_44, ft_45, ft_46, ft_47, ft_48, ft_49, ft_50, ft_52, ft_53, ft_54, ft_55, ft_56, ft_57, ft_58, ft_59, ft_60, ft_61, ft_62, ft_63, dLen, dDraw, guard_true gd, Tree.All, Tree.upN, Tree.knP]
    refine ⟨by omega, by omega, fun d h0 h1 => ?_⟩
    have hd : d.toNat < xs.length := by omega
    have g1 : (decide (0 ≤ d) && decide (d < 2 ^ 62)) = true := by
      have : (2 : Int) ^ 62 = 4611686018427387904 := by decide
      simp only [Bool.and_eq_true, decide_eq_true_eq]; omega
    simp only [nthAny, nthV, guard_true g1, List.getElem?_eq_getElem hd, optT, Tree.bind, Tree.All, Tree.upN, Tree.knP]
    exact ⟨rfl, .inl (by have := hk _ (List.getElem_mem hd); simp only [Tree.All, Tree.upN, Tree.knP] at this; exact this)⟩
  · simp only [Tree.All, Tree.upN, Tree.knP] at h

theorem sim_law_worth (us : List V) (pn : Pn) (K : Pn → V → Prop) (h : (dWorth us).All pn K) : us.length = 1 ∧ (runB FT GT 30 b_law_worth ([29].zip us)).All pn (Weak K) := by
  unfold dWorth at h
  split at h
  · obtain ⟨n, rfl, hn, hk⟩ := any_all h
    have hk : ∀ w, Wd 64 w → K (.upto (n + 6)) (.int w) := fun w hw => by
      have := hk (.int w) ⟨w, rfl, hw.1, hw.2⟩
      simpa only [Tree.All, Tree.upN, Tree.knP] using this
    refine ⟨rfl, ?_⟩
    generalize hσ : List.zip _ _ = σ
    have f29 : get σ 29 = some .pen := by rw [← hσ]; rfl
    refine all_def ?_
    unfold b_law_worth
    refine all_seq ?_
    simp only [ex, ev, evL, f29, optT, Tree.bind, ft_0, ft_1, ft_2, ft_3, ft_4, ft_5, ft_6, ft_7, ft_8, ft_9, ft_12, ft_13, ft_14, ft_15, ft_16, ft_17, ft_18, ft_19, ft_20, ft_21, ft_22, ft_23, ft_24, ft_25, ft_26, ft_27, ft_28, ft_29, ft_30, ft_31, ft_32, ft_33, ft_34, ft_35, ft_36, ft_37, ft_38, ft_40, ft_41, ft_42, ft_43, ft_44, ft_45, ft_46, ft_47, ft_48, ft_49, ft_50, ft_52, ft_53, ft_54, ft_55, ft_56, ft_57, ft_58, ft_59, ft_60, ft_61, ft_62, ft_63, dDraw, draw_3, Tree.All, Tree.upN, Tree.knP]
    refine ⟨by decide, by omega, fun way w0 w3 => ⟨trivial, ?_⟩⟩
    have c1 : ∀ j : Int, cmpV .Eq (.int way) (.int j) = .ret (way == j) := fun j => rfl
    refine all_ifret (b := way == 0) (by simp only [tv, ev, get_set, if_true, optT, Tree.bind, c1]) (fun hb => ?_) (fun hb => ?_)
    · refine all_end ?_
      simp only [ex, ev, evL, get_set, f29, optT, Tree.bind, ft_0, ft_1, ft_2, ft_3, ft_4, ft_5, ft_6, ft_7, ft_8, ft_9, ft_12, ft_13, ft_14, ft_15, ft_16, ft_17, ft_18, ft_19, ft_20, ft_21, ft_22, ft_23, ft_24, ft_25, ft_26, ft_27, ft_28, ft_29, ft_30, ft_31, ft_32, ft_33, ft_34, ft_35, ft_36, ft_37, ft_38, ft_40, ft_41, ft_42, ft_43, ft_44, ft_45, ft_46, ft_47, ft_48, ft_49, ft_50, ft_52, ft_53, ft_54, ft_55, ft_56, ft_57, ft_58, ft_59, ft_60, ft_61, ft_62, ft_63, dAllN, dHalf, ov_add, ov_app, ov_sub, ov_mul, ov_div, ov_mod, ov_pow, ov_shl, ov_shr, ov_and, ov_or, ov_xor, dPick, guard_true (show (((2 : Int) != 0) && short 2) = true by decide +kernel), if_false, Nat.reduceEqDiff]
      unfold need
      rw [if_pos (by decide)]
      simp only [Tree.bind, Tree.All, Tree.upN, Tree.knP]
      refine ⟨by omega, fun v hv => ⟨rfl, rfl, weak_up (n' := n + 6) (by omega) ?_⟩⟩
      simp only [List.mem_cons, List.not_mem_nil, or_false] at hv
      rcases hv with rfl | rfl | rfl | rfl | rfl | rfl | rfl | rfl <;> exact hk _ ⟨by decide, by decide⟩
    · refine all_ifret (b := way == 1) (by simp only [tv, ev, get_set, if_true, optT, Tree.bind, c1]) (fun hb => ?_) (fun hb => ?_)
      · refine all_end ?_
        simp only [ex, ev, evL, get_set, f29, optT, Tree.bind, ft_0, ft_1, ft_2, ft_3, ft_4, ft_5, ft_6, ft_7, ft_8, ft_9, ft_12, ft_13, ft_14, ft_15, ft_16, ft_17, ft_18, ft_19, ft_20, ft_21, ft_22, ft_23, ft_24, ft_25, ft_26, ft_27, ft_28, ft_29, ft_30, ft_31, ft_32, ft_33, ft_34, ft_35, ft_36, ft_37, ft_38, ft_40, ft_41, ft_42, ft_43, ft_44, ft_45, ft_46, ft_47, ft_48, ft_49, ft_50, ft_52, ft_53, ft_54, ft_55, ft_56, ft_57, ft_58, ft_59, ft_60, ft_61, ft_62, ft_63, dDraw, draw_256, Tree.All, Tree.upN, Tree.knP, if_false, Nat.reduceEqDiff]
        refine ⟨by decide, by omega, fun d h0 h1 => ⟨rfl, rfl, weak_up (n' := n + 6) (by omega) (hk _ (wd_small h0 h1))⟩⟩
      · refine all_seq ?_
        simp only [ex, ev, Tree.bind, Tree.All, Tree.upN, Tree.knP]
        refine ⟨trivial, ?_⟩
        refine all_seq (all_range_for (w := 4) (by simp only [ev, evL, Tree.bind, ft_0, ft_1, ft_2, ft_3, ft_4, ft_5, ft_6, ft_7, ft_8, ft_9, ft_12, ft_13, ft_14, ft_15, ft_16, ft_17, ft_18, ft_19, ft_20, ft_21, ft_22, ft_23, ft_24, ft_25, ft_26, ft_27, ft_28, ft_29, ft_30, ft_31, ft_32, ft_33, ft_34, ft_35, ft_36, ft_37, ft_38, ft_40, ft_41, ft_42, ft_43, ft_44, ft_45, ft_46, ft_47, ft_48, ft_49, ft_50, ft_52, ft_53, ft_54, ft_55, ft_56, ft_57, ft_58, ft_59, ft_60, ft_61, ft_62, ft_63, dRange]; rfl) (by omega) (fun i f q => q = .upto (n + 1 + i) ∧ get f.σ 29 = some .pen ∧ ∃ w, get f.σ 1 = some (.int w) ∧ Wd (16 * i) w) ⟨rfl, by repeat (first | exact get_eq | exact f29 | refine get_ne rfl ?_), 0, by repeat (first | exact get_eq | refine get_ne rfl ?_), by decide, by decide⟩ (fun i f q hi hf => ?_) (fun f q hf => ⟨rfl, ?_⟩))
        · obtain ⟨rfl, f29, w, f1, hw⟩ := hf
          refine all_seq ?_
          have gm : (small w || small 65536) = true := by rw [show small 65536 = true by decide]; simp
          simp only [ex, ev, evL, get_set, f29, f1, optT, Tree.bind, ft_0, ft_1, ft_2, ft_3, ft_4, ft_5, ft_6, ft_7, ft_8, ft_9, ft_12, ft_13, ft_14, ft_15, ft_16, ft_17, ft_18, ft_19, ft_20, ft_21, ft_22, ft_23, ft_24, ft_25, ft_26, ft_27, ft_28, ft_29, ft_30, ft_31, ft_32, ft_33, ft_34, ft_35, ft_36, ft_37, ft_38, ft_40, ft_41, ft_42, ft_43, ft_44, ft_45, ft_46, ft_47, ft_48, ft_49, ft_50, ft_52, ft_53, ft_54, ft_55, ft_56, ft_57, ft_58, ft_59, ft_60, ft_61, ft_62, ft_63, dDraw, draw_65536, ov_add, ov_app, ov_sub, ov_mul, ov_div, ov_mod, ov_pow, ov_shl, ov_shr, ov_and, ov_or, ov_xor, guard_true gm, Tree.All, Tree.upN, Tree.knP, if_false, if_true, Nat.reduceEqDiff]
          refine ⟨by decide, by omega, fun d h0 h1 => ⟨trivial, all_nil ⟨rfl, rfl, by repeat (first | exact get_eq | exact f29 | refine get_ne rfl ?_), w * 65536 + d, by repeat (first | exact get_eq | refine get_ne rfl ?_), ?_⟩⟩⟩
          have e : (2 : Int) ^ (16 * (i + 1)) = 2 ^ (16 * i) * 65536 := by rw [show 16 * (i + 1) = 16 * i + 16 by omega, pow_split]; rfl
          have h2 := hw.1
          have h3 := hw.2
          exact ⟨by omega, by rw [e]; omega⟩
        · obtain ⟨rfl, f29, w, f1, hw⟩ := hf
          refine all_end ?_
          simp only [ex, ev, f1, optT, Tree.bind, Tree.All, Tree.upN, Tree.knP]
          exact ⟨rfl, weak_up (n' := n + 6) (by omega) (hk _ hw)⟩
  · simp only [Tree.All, Tree.upN, Tree.knP] at h
end Mine

set_option autoImplicit false
namespace Mine
open PySem
set_option linter.unusedSimpArgs false

/-- x is one of the words that (v, m) tells of -/
noncomputable def Mem (v m x : Int) : Prop := Wd 64 x ∧ ∀ k, tb m k = false → tb x k = tb v k
noncomputable def Apart (v m : Int) : Prop := ∀ k, tb m k = true → tb v k = false
theorem apart_of {v m : Int} (h : band v m = 0) : Apart v m := fun k hk => by
  have e : tb (band v m) k = false := by rw [h, tb_zero]
  rw [show band v m = Builtin.bitAnd v m from rfl, tb_band, hk, Bool.and_true] at e
  exact e
theorem of_apart {v m : Int} (hv : Wd 64 v) (h : Apart v m) : band v m = 0 := by
  refine Wd.ext (n := 64) hv.band ⟨by decide, by decide⟩ fun k _ => ?_
  rw [tb_band, tb_zero]
  cases q : tb m k with
  | false => simp
  | true => rw [h k q]; rfl
theorem wd_of {x : Int} (h : Word x) : Wd 64 x := ⟨h.1, h.2⟩
theorem word_of {x : Int} (h : Wd 64 x) : Word x := ⟨h.1, h.2⟩

theorem Wd.sub {n : Nat} {z w : Int} (hz : Wd n z) (hw : Wd n w) (h : Sub w z) : Wd n (z - w) := by
  have e := sub_mod h n
  rw [hz.same, hw.same] at e
  exact ⟨by omega, by have := hz.2; have := hw.1; omega⟩
theorem mod_congr {x y : Int} : ∀ {k : Nat}, (∀ j, j < k → tb x j = tb y j) → x % 2 ^ k = y % 2 ^ k
  | 0, _ => by simp [Int.emod_one]
  | k + 1, h => by rw [mod_succ, mod_succ y, mod_congr fun j hj => h j (by omega), h k (by omega)]
theorem bor_apart {v m : Int} (hv : Wd 64 v) (hm : Wd 64 m) (h : Apart v m) : bor v m = v + m := by
  have hb := hv.bor hm
  have hs : Sub m (Builtin.bitOr v m) := fun k hk => by rw [tb_bor, hk, Bool.or_true]
  have : Builtin.bitOr v m - m = v := Wd.ext (hb.sub hm hs) hv fun k _ => by
    rw [tb_subm hs, tb_bor]
    cases q : tb m k with
    | false => simp
    | true => rw [h k q]; rfl
  show Builtin.bitOr v m = v + m
  omega
theorem Mem.up {v m x : Int} (h : Mem v m x) (a : Apart v m) : Sub v x := fun k hk => by
  cases q : tb m k with
  | false => rw [h.2 k q]; exact hk
  | true => rw [a k q] at hk; cases hk
theorem Mem.down {v m x : Int} (h : Mem v m x) : Sub x (bor v m) := fun k hk => by
  show tb (Builtin.bitOr v m) k = true
  rw [tb_bor]
  cases q : tb m k with
  | true => simp
  | false => rw [h.2 k q] at hk; rw [hk]; rfl
theorem mem_low {v m : Int} (hv : Wd 64 v) : Mem v m v := ⟨hv, fun _ _ => rfl⟩
theorem mem_high {v m : Int} (hv : Wd 64 v) (hm : Wd 64 m) : Mem v m (bor v m) := ⟨hv.bor hm, fun k hk => by
  show tb (Builtin.bitOr v m) k = _
  rw [tb_bor, hk, Bool.or_false]⟩
theorem tb_or_pow (v : Int) (p k : Nat) : tb (bor v (2 ^ p)) k = (tb v k || decide (k = p)) := by
  show tb (Builtin.bitOr v (2 ^ p)) k = _
  rw [tb_bor, tb_pow]
theorem mem_bit {v m : Int} {p : Nat} (hv : Wd 64 v) (hp : p < 64) (h : tb m p = true) : Mem v m (bor v (2 ^ p)) := ⟨hv.bor (wd_pow hp), fun k hk => by
  rw [tb_or_pow]
  by_cases e : k = p
  · subst e; rw [h] at hk; cases hk
  · rw [decide_eq_false e, Bool.or_false]⟩

/-- the list's best: bits that all share, bits in which some differ -/
theorem tb_foldl_band (k : Nat) : ∀ (ns : List Int) (x : Int), tb (ns.foldl band x) k = (tb x k && ns.all fun y => tb y k)
  | [], x => by simp
  | y :: r, x => by
    rw [List.foldl_cons, tb_foldl_band k r, show tb (band x y) k = (tb x k && tb y k) from tb_band x y k, List.all_cons, Bool.and_assoc]
theorem tb_foldl_bor (k : Nat) : ∀ (ns : List Int) (x : Int), tb (ns.foldl bor x) k = (tb x k || ns.any fun y => tb y k)
  | [], x => by simp
  | y :: r, x => by
    rw [List.foldl_cons, tb_foldl_bor k r, show tb (bor x y) k = (tb x k || tb y k) from tb_bor x y k, List.any_cons, Bool.or_assoc]
theorem wd_foldl_band : ∀ (ns : List Int) (x : Int), Wd 64 x → Wd 64 (ns.foldl band x)
  | [], _, h => h
  | y :: r, x, h => wd_foldl_band r (band x y) (Wd.band h)
theorem wd_foldl_bor : ∀ (ns : List Int) (x : Int), Wd 64 x → (∀ y ∈ ns, Wd 64 y) → Wd 64 (ns.foldl bor x)
  | [], _, h, _ => h
  | y :: r, x, h, g => wd_foldl_bor r (bor x y) (Wd.bor h (g y (by simp))) fun z hz => g z (by simp [hz])
theorem best_is {ns : List Int} {V M : Int} (hne : ns ≠ []) (hw : ∀ x ∈ ns, Wd 64 x) (hV : Wd 64 V) (hM : Wd 64 M) (hap : Apart V M) (ha : ∀ x ∈ ns, Mem V M x)
    (hb : ∀ k, k < 64 → tb M k = true → ∃ x ∈ ns, ∃ y ∈ ns, tb x k ≠ tb y k) : andAll ns = V ∧ orAll ns - andAll ns = M := by
  obtain ⟨n, r, rfl⟩ : ∃ n r, ns = n :: r := by
    cases ns with
    | nil => exact absurd rfl hne
    | cons n r => exact ⟨n, r, rfl⟩
  have a1 : ∀ k, tb (andAll (n :: r)) k = (n :: r).all fun y => tb y k := fun k => by
    show tb ((n :: r).foldl band n) k = _
    rw [tb_foldl_band, List.all_cons]
    cases tb n k <;> rfl
  have o1 : ∀ k, tb (orAll (n :: r)) k = (n :: r).any fun y => tb y k := fun k => by
    show tb ((n :: r).foldl bor n) k = _
    rw [tb_foldl_bor, List.any_cons]
    cases tb n k <;> rfl
  have wa : Wd 64 (andAll (n :: r)) := wd_foldl_band _ _ (hw n (by simp))
  have wo' : Wd 64 (orAll (n :: r)) := wd_foldl_bor _ _ (hw n (by simp)) hw
  have hs : Sub (andAll (n :: r)) (orAll (n :: r)) := fun k hk => by
    rw [a1, List.all_eq_true] at hk
    rw [o1, List.any_eq_true]
    exact ⟨n, by simp, hk n (by simp)⟩
  have av : ∀ k, k < 64 → tb (andAll (n :: r)) k = tb V k := fun k hk => by
    cases q : tb M k with
    | true =>
      rw [hap k q, a1, List.all_eq_false]
      obtain ⟨x, hx, y, hy, e⟩ := hb k hk q
      cases qx : tb x k with
      | false => exact ⟨x, hx, by simp [qx]⟩
      | true => exact ⟨y, hy, by rw [qx] at e; cases qy : tb y k <;> simp_all⟩
    | false =>
      rw [a1]
      cases qv : tb V k with
      | true => rw [List.all_eq_true]; intro x hx; rw [(ha x hx).2 k q]; exact qv
      | false => rw [List.all_eq_false]; exact ⟨n, by simp, by rw [(ha n (by simp)).2 k q, qv]; simp⟩
  refine ⟨Wd.ext wa hV av, Wd.ext (wo'.sub wa hs) hM fun k hk => ?_⟩
  rw [tb_subm hs, av k hk]
  cases q : tb M k with
  | true =>
    rw [hap k q, o1]
    obtain ⟨x, hx, y, hy, e⟩ := hb k hk q
    have : ((n :: r).any fun y => tb y k) = true := by
      rw [List.any_eq_true]
      cases qx : tb x k with
      | true => exact ⟨x, hx, qx⟩
      | false => exact ⟨y, hy, by rw [qx] at e; cases qy : tb y k <;> simp_all⟩
    rw [this]; rfl
  | false =>
    rw [o1]
    cases qv : tb V k with
    | true => simp
    | false =>
      have : ((n :: r).any fun y => tb y k) = false := by
        rw [List.any_eq_false]; intro x hx; rw [(ha x hx).2 k q, qv]; simp
      rw [this]; rfl

/-- value without the bits of mask, as words -/
noncomputable def woV (v m : Int) : Int := v % B64 - band (v % B64) (m % B64)
theorem wo_is (v m : Int) : wo v m = .tnum (woV v m) (m % B64) := rfl
theorem wd_mod (x : Int) : Wd 64 (x % B64) := Wd.mod 64 x
theorem tb_modB (x : Int) (k : Nat) : tb (x % B64) k = (decide (k < 64) && tb x k) := tb_mod x 64 k
theorem tb_woV (v m : Int) (k : Nat) : tb (woV v m) k = (decide (k < 64) && tb v k && !tb m k) := by
  unfold woV
  have hs : Sub (Builtin.bitAnd (v % B64) (m % B64)) (v % B64) := fun j hj => by
    rw [tb_band] at hj; simp at hj; exact hj.1
  show tb (v % B64 - Builtin.bitAnd (v % B64) (m % B64)) k = _
  rw [tb_subm hs, tb_band, tb_modB, tb_modB]
  cases decide (k < 64) <;> cases tb v k <;> cases tb m k <;> rfl
theorem wd_woV (v m : Int) : Wd 64 (woV v m) := by
  refine (wd_mod v).sub (wd_mod v).band fun j hj => ?_
  rw [tb_band] at hj; simp at hj; exact hj.1
theorem apart_woV (v m : Int) : Apart (woV v m) (m % B64) := fun k hk => by
  rw [tb_modB] at hk
  rw [tb_woV]
  cases q : tb m k with
  | true => simp
  | false => rw [q] at hk; simp at hk

/-- an op of two is sound and best -/
structure Op2 (f : Int → Int → Int) (v1 m1 v2 m2 V M : Int) : Prop where
  wV : Wd 64 V
  wM : Wd 64 M
  ap : Apart V M
  sound : ∀ x y, Mem v1 m1 x → Mem v2 m2 y → Mem V M (f x y)
  best : ∀ k, k < 64 → tb M k = true → ∃ x y x' y', Mem v1 m1 x ∧ Mem v2 m2 y ∧ Mem v1 m1 x' ∧ Mem v2 m2 y' ∧ tb (f x y) k ≠ tb (f x' y') k

/-- words that tell of members -/
structure Tn (v m : Int) : Prop where
  wv : Wd 64 v
  wm : Wd 64 m
  ap : Apart v m
theorem W3.tn {v m : Int} (h : W3 v m) : Tn v m := ⟨wd_of h.wv, wd_of h.wm, apart_of h.apart⟩
theorem Op2.tn {f : Int → Int → Int} {v1 m1 v2 m2 V M : Int} (h : Op2 f v1 m1 v2 m2 V M) : Tn V M := ⟨h.wV, h.wM, h.ap⟩

theorem dec_le_mono {a b c d P : Int} (h1 : a ≤ b) (h2 : c ≤ d) : decide (P ≤ a + c) = true → decide (P ≤ b + d) = true := fun h => by
  simp only [decide_eq_true_eq] at h ⊢; omega
theorem and_bool : ∀ a b c d x y : Bool, (b = false → x = a) → (d = false → y = c) → (a = true → x = true) → (c = true → y = true) → (((a || b) && (c || d)) && (true ^^ (a && c))) = false → (x && y) = (true && (a && c) && !(((a || b) && (c || d)) && (true ^^ (a && c)))) := by decide
theorem and_bool2 : ∀ a b c d : Bool, (((a || b) && (c || d)) && (true ^^ (a && c))) = true → (a && c) ≠ ((a || b) && (c || d)) := by decide
theorem or_bool : ∀ a b c d x y : Bool, (b = false → x = a) → (d = false → y = c) → (a = true → x = true) → (c = true → y = true) → ((b || d) && (true ^^ (a || c))) = false → (x || y) = (a || c) := by decide
theorem or_bool2 : ∀ a b c d : Bool, ((b || d) && (true ^^ (a || c))) = true → (a || c) ≠ ((a || b) || (c || d)) := by decide
theorem xor_bool : ∀ a b c d x y : Bool, (b = false → x = a) → (d = false → y = c) → (b || d) = false → (x ^^ y) = (true && (a ^^ c) && !(b || d)) := by decide
theorem xor_bool1 : ∀ a b c : Bool, a ≠ b → (a ^^ c) ≠ (b ^^ c) := by decide
theorem xor_bool2 : ∀ a b c : Bool, a ≠ b → (c ^^ a) ≠ (c ^^ b) := by decide
theorem or_bool3 : ∀ a b c : Bool, (c && (true ^^ (a || b))) = true → (a || b) = false := by decide
theorem between_all : ∀ a b c : Bool, (a = true → b = true) → (b = true → c = true) → a = c → b = a := by decide
theorem bool_between {a b c : Bool} (h1 : a = true → b = true) (h2 : b = true → c = true) (e : a = c) : b = a := between_all a b c h1 h2 e

section
variable {v1 m1 v2 m2 : Int}
theorem add_soundV (h1 : Tn v1 m1) (h2 : Tn v2 m2) {x y : Int} (hx : Mem v1 m1 x) (hy : Mem v2 m2 y) :
    Mem (woV (v1 + v2) (bor (bor (bxor (v1 + v2) (v1 + v2 + m1 + m2)) m1) m2)) (bor (bor (bxor (v1 + v2) (v1 + v2 + m1 + m2)) m1) m2 % B64) ((x + y) % B64) := by
  refine ⟨wd_mod _, fun k hk => ?_⟩
  rw [tb_modB, tb_woV]
  rw [tb_modB] at hk
  by_cases h64 : k < 64
  · rw [decide_eq_true h64, Bool.true_and] at hk
    rw [decide_eq_true h64, Bool.true_and, Bool.true_and, hk, Bool.not_false, Bool.and_true]
    have e : v1 + v2 + m1 + m2 = bor v1 m1 + bor v2 m2 := by rw [bor_apart h1.wv h1.wm h1.ap, bor_apart h2.wv h2.wm h2.ap]; omega
    rw [e] at hk
    change tb (Builtin.bitOr (Builtin.bitOr (Builtin.bitXor (v1 + v2) (bor v1 m1 + bor v2 m2)) m1) m2) k = false at hk
    rw [tb_bor, tb_bor, tb_bxor] at hk
    have c1 : tb m1 k = false := by cases q : tb m1 k <;> simp_all
    have c2 : tb m2 k = false := by cases q : tb m2 k <;> simp_all
    have c3 : tb (v1 + v2) k = tb (bor v1 m1 + bor v2 m2) k := by
      rw [c1, c2, Bool.or_false, Bool.or_false] at hk
      cases q : tb (v1 + v2) k <;> cases q' : tb (bor v1 m1 + bor v2 m2) k <;> simp_all
    rw [tb_add, tb_add (bor v1 m1)] at c3
    rw [tb_add, tb_add v1, hx.2 k c1, hy.2 k c2]
    have d1 : tb (bor v1 m1) k = tb v1 k := (mem_high h1.wv h1.wm).2 k c1
    have d2 : tb (bor v2 m2) k = tb v2 k := (mem_high h2.wv h2.wm).2 k c2
    rw [d1, d2] at c3
    have c4 : decide (2 ^ k ≤ v1 % 2 ^ k + v2 % 2 ^ k) = decide (2 ^ k ≤ bor v1 m1 % 2 ^ k + bor v2 m2 % 2 ^ k) := by
      revert c3
      cases tb v1 k <;> cases tb v2 k <;> simp
    rw [bool_between (dec_le_mono (sub_mod (hx.up h1.ap) k) (sub_mod (hy.up h2.ap) k)) (dec_le_mono (sub_mod hx.down k) (sub_mod hy.down k)) c4]
  · rw [decide_eq_false h64]; rfl
theorem xor_ne {a b : Bool} (c d : Bool) (h : a ≠ b) : ((a ^^ c) ^^ d) ≠ ((b ^^ c) ^^ d) := by
  cases a <;> cases b <;> cases c <;> cases d <;> simp_all
theorem xor_ne' {a b : Bool} (c d : Bool) (h : a ≠ b) : ((c ^^ a) ^^ d) ≠ ((c ^^ b) ^^ d) := by
  cases a <;> cases b <;> cases c <;> cases d <;> simp_all
theorem or_pow_mod (v : Int) (k : Nat) : bor v (2 ^ k) % 2 ^ k = v % 2 ^ k := mod_congr fun j hj => by
  rw [tb_or_pow, decide_eq_false (by omega), Bool.or_false]
theorem or_pow_ne {v m : Int} {k : Nat} (ap : Apart v m) (hk : tb m k = true) : tb v k ≠ tb (bor v (2 ^ k)) k := by
  rw [tb_or_pow, ap k hk, decide_eq_true rfl]; simp
theorem add_op (h1 : Tn v1 m1) (h2 : Tn v2 m2) : Op2 (fun x y => (x + y) % B64) v1 m1 v2 m2 (woV (v1 + v2) (bor (bor (bxor (v1 + v2) (v1 + v2 + m1 + m2)) m1) m2)) (bor (bor (bxor (v1 + v2) (v1 + v2 + m1 + m2)) m1) m2 % B64) := by
  refine ⟨wd_woV _ _, wd_mod _, apart_woV _ _, fun x y hx hy => add_soundV h1 h2 hx hy, fun k h64 hk => ?_⟩
  have e : v1 + v2 + m1 + m2 = bor v1 m1 + bor v2 m2 := by rw [bor_apart h1.wv h1.wm h1.ap, bor_apart h2.wv h2.wm h2.ap]; omega
  rw [e, tb_modB, decide_eq_true h64, Bool.true_and] at hk
  change tb (Builtin.bitOr (Builtin.bitOr (Builtin.bitXor (v1 + v2) (bor v1 m1 + bor v2 m2)) m1) m2) k = true at hk
  rw [tb_bor, tb_bor, tb_bxor] at hk
  have hm : ∀ z : Int, tb (z % B64) k = tb z k := fun z => by rw [tb_modB, decide_eq_true h64, Bool.true_and]
  cases c1 : tb m1 k with
  | true =>
    refine ⟨v1, v2, bor v1 (2 ^ k), v2, mem_low h1.wv, mem_low h2.wv, mem_bit h1.wv h64 c1, mem_low h2.wv, ?_⟩
    rw [hm, hm, tb_add, tb_add (bor v1 (2 ^ k)), or_pow_mod]
    exact xor_ne _ _ (or_pow_ne h1.ap c1)
  | false =>
    cases c2 : tb m2 k with
    | true =>
      refine ⟨v1, v2, v1, bor v2 (2 ^ k), mem_low h1.wv, mem_low h2.wv, mem_low h1.wv, mem_bit h2.wv h64 c2, ?_⟩
      rw [hm, hm, tb_add, tb_add v1 (bor v2 (2 ^ k)), or_pow_mod]
      exact xor_ne' _ _ (or_pow_ne h2.ap c2)
    | false =>
      refine ⟨v1, v2, bor v1 m1, bor v2 m2, mem_low h1.wv, mem_low h2.wv, mem_high h1.wv h1.wm, mem_high h2.wv h2.wm, ?_⟩
      rw [hm, hm]
      rw [c1, c2, Bool.or_false, Bool.or_false] at hk
      intro q; rw [q] at hk; simp at hk

theorem dec_lt_mono {a b c d : Int} (h1 : a ≤ b) (h2 : d ≤ c) : decide (b < d) = true → decide (a < c) = true := fun h => by
  simp only [decide_eq_true_eq] at h ⊢; omega
theorem sub_op (h1 : Tn v1 m1) (h2 : Tn v2 m2) : Op2 (fun x y => (x - y) % B64) v1 m1 v2 m2 (woV (v1 - v2) (bor (bor (bxor (v1 - v2 + m1) (v1 - v2 - m2)) m1) m2)) (bor (bor (bxor (v1 - v2 + m1) (v1 - v2 - m2)) m1) m2 % B64) := by
  have e1 : v1 - v2 + m1 = bor v1 m1 - v2 := by rw [bor_apart h1.wv h1.wm h1.ap]; omega
  have e2 : v1 - v2 - m2 = v1 - bor v2 m2 := by rw [bor_apart h2.wv h2.wm h2.ap]; omega
  rw [e1, e2]
  have mk : ∀ k, tb (bor (bor (bxor (bor v1 m1 - v2) (v1 - bor v2 m2)) m1) m2) k = ((((tb (bor v1 m1) k ^^ tb v2 k) ^^ decide (bor v1 m1 % 2 ^ k < v2 % 2 ^ k)) ^^ ((tb v1 k ^^ tb (bor v2 m2) k) ^^ decide (v1 % 2 ^ k < bor v2 m2 % 2 ^ k))) || tb m1 k || tb m2 k) := fun k => by
    show tb (Builtin.bitOr (Builtin.bitOr (Builtin.bitXor (bor v1 m1 - v2) (v1 - bor v2 m2)) m1) m2) k = _
    rw [tb_bor, tb_bor, tb_bxor, tb_sub, tb_sub v1]
  refine ⟨wd_woV _ _, wd_mod _, apart_woV _ _, fun x y hx hy => ⟨wd_mod _, fun k hk => ?_⟩, fun k h64 hk => ?_⟩
  · rw [tb_modB, tb_woV]
    rw [tb_modB] at hk
    by_cases h64 : k < 64
    · rw [decide_eq_true h64, Bool.true_and] at hk
      rw [decide_eq_true h64, Bool.true_and, Bool.true_and, hk, Bool.not_false, Bool.and_true]
      rw [mk] at hk
      have c1 : tb m1 k = false := by cases q : tb m1 k <;> simp_all
      have c2 : tb m2 k = false := by cases q : tb m2 k <;> simp_all
      have d1 : tb (bor v1 m1) k = tb v1 k := (mem_high h1.wv h1.wm).2 k c1
      have d2 : tb (bor v2 m2) k = tb v2 k := (mem_high h2.wv h2.wm).2 k c2
      rw [c1, c2, d1, d2, Bool.or_false, Bool.or_false] at hk
      have c4 : decide (bor v1 m1 % 2 ^ k < v2 % 2 ^ k) = decide (v1 % 2 ^ k < bor v2 m2 % 2 ^ k) := by
        revert hk
        cases tb v1 k <;> cases tb v2 k <;> simp
      rw [tb_sub, tb_sub v1, hx.2 k c1, hy.2 k c2]
      have a1 : decide (x % 2 ^ k < y % 2 ^ k) = decide (bor v1 m1 % 2 ^ k < v2 % 2 ^ k) := bool_between (dec_lt_mono (sub_mod hx.down k) (sub_mod (hy.up h2.ap) k)) (dec_lt_mono (sub_mod (hx.up h1.ap) k) (sub_mod hy.down k)) c4
      have a2 : decide (v1 % 2 ^ k < v2 % 2 ^ k) = decide (bor v1 m1 % 2 ^ k < v2 % 2 ^ k) := bool_between (dec_lt_mono (sub_mod (mem_low (m := m1) h1.wv).down k) (Int.le_refl _)) (dec_lt_mono (Int.le_refl _) (sub_mod (mem_low (m := m2) h2.wv).down k)) c4
      rw [a1, a2]
    · rw [decide_eq_false h64]; rfl
  · rw [tb_modB, decide_eq_true h64, Bool.true_and, mk] at hk
    have hm : ∀ z : Int, tb (z % B64) k = tb z k := fun z => by rw [tb_modB, decide_eq_true h64, Bool.true_and]
    cases c1 : tb m1 k with
    | true =>
      refine ⟨v1, v2, bor v1 (2 ^ k), v2, mem_low h1.wv, mem_low h2.wv, mem_bit h1.wv h64 c1, mem_low h2.wv, ?_⟩
      rw [hm, hm, tb_sub, tb_sub (bor v1 (2 ^ k)), or_pow_mod]
      exact xor_ne _ _ (or_pow_ne h1.ap c1)
    | false =>
      cases c2 : tb m2 k with
      | true =>
        refine ⟨v1, v2, v1, bor v2 (2 ^ k), mem_low h1.wv, mem_low h2.wv, mem_low h1.wv, mem_bit h2.wv h64 c2, ?_⟩
        rw [hm, hm, tb_sub, tb_sub v1 (bor v2 (2 ^ k)), or_pow_mod]
        exact xor_ne' _ _ (or_pow_ne h2.ap c2)
      | false =>
        refine ⟨bor v1 m1, v2, v1, bor v2 m2, mem_high h1.wv h1.wm, mem_low h2.wv, mem_low h1.wv, mem_high h2.wv h2.wm, ?_⟩
        rw [hm, hm, tb_sub, tb_sub v1]
        rw [c1, c2, Bool.or_false, Bool.or_false] at hk
        intro q; rw [q] at hk; simp at hk

theorem tb_M64 (k : Nat) : tb M64 k = decide (k < 64) := tb_mask 64 k
theorem wd_M64 : Wd 64 M64 := ⟨by decide, by decide⟩
theorem wd_same {x : Int} (h : Wd 64 x) : x % B64 = x := h.same
theorem and_op (h1 : Tn v1 m1) (h2 : Tn v2 m2) : Op2 band v1 m1 v2 m2 (woV (band v1 v2) (band (band (bor v1 m1) (bor v2 m2)) (bxor M64 (band v1 v2)))) (band (band (bor v1 m1) (bor v2 m2)) (bxor M64 (band v1 v2)) % B64) := by
  have mk : ∀ k, tb (band (band (bor v1 m1) (bor v2 m2)) (bxor M64 (band v1 v2))) k = (((tb v1 k || tb m1 k) && (tb v2 k || tb m2 k)) && (decide (k < 64) ^^ (tb v1 k && tb v2 k))) := fun k => by
    show tb (Builtin.bitAnd (Builtin.bitAnd (Builtin.bitOr v1 m1) (Builtin.bitOr v2 m2)) (Builtin.bitXor M64 (Builtin.bitAnd v1 v2))) k = _
    rw [tb_band, tb_band, tb_bor, tb_bor, tb_bxor, tb_band, tb_M64]
  have bk : ∀ x y k, tb (band x y) k = (tb x k && tb y k) := fun x y k => tb_band x y k
  refine ⟨wd_woV _ _, wd_mod _, apart_woV _ _, fun x y hx hy => ⟨Wd.band hx.1, fun k hk => ?_⟩, fun k h64 hk => ?_⟩
  · rw [bk, tb_woV, bk, mk]
    rw [tb_modB, mk] at hk
    by_cases h64 : k < 64
    · rw [decide_eq_true h64] at hk ⊢
      rw [Bool.true_and] at hk
      exact and_bool _ _ _ _ _ _ (hx.2 k) (hy.2 k) (hx.up h1.ap k) (hy.up h2.ap k) hk
    · rw [hx.1.high (by omega), decide_eq_false h64]; rfl
  · rw [tb_modB, mk, decide_eq_true h64, Bool.true_and] at hk
    refine ⟨v1, v2, bor v1 m1, bor v2 m2, mem_low h1.wv, mem_low h2.wv, mem_high h1.wv h1.wm, mem_high h2.wv h2.wm, ?_⟩
    rw [bk, bk, show tb (bor v1 m1) k = _ from tb_bor v1 m1 k, show tb (bor v2 m2) k = _ from tb_bor v2 m2 k]
    exact and_bool2 _ _ _ _ hk
theorem or_op (h1 : Tn v1 m1) (h2 : Tn v2 m2) : Op2 bor v1 m1 v2 m2 (bor v1 v2) (band (bor m1 m2) (bxor M64 (bor v1 v2))) := by
  have mk : ∀ k, tb (band (bor m1 m2) (bxor M64 (bor v1 v2))) k = ((tb m1 k || tb m2 k) && (decide (k < 64) ^^ (tb v1 k || tb v2 k))) := fun k => by
    show tb (Builtin.bitAnd (Builtin.bitOr m1 m2) (Builtin.bitXor M64 (Builtin.bitOr v1 v2))) k = _
    rw [tb_band, tb_bor, tb_bxor, tb_bor, tb_M64]
  have bk : ∀ x y k, tb (bor x y) k = (tb x k || tb y k) := fun x y k => tb_bor x y k
  refine ⟨h1.wv.bor h2.wv, Wd.band (h1.wm.bor h2.wm), fun k hk => ?_, fun x y hx hy => ⟨Wd.bor hx.1 hy.1, fun k hk => ?_⟩, fun k h64 hk => ?_⟩
  · rw [mk] at hk
    rw [bk]
    by_cases h64 : k < 64
    · rw [decide_eq_true h64] at hk
      exact or_bool3 _ _ _ hk
    · rw [h1.wv.high (by omega), h2.wv.high (by omega)]; rfl
  · rw [mk] at hk
    rw [bk, bk]
    by_cases h64 : k < 64
    · rw [decide_eq_true h64] at hk
      exact or_bool _ _ _ _ _ _ (hx.2 k) (hy.2 k) (hx.up h1.ap k) (hy.up h2.ap k) hk
    · rw [hx.1.high (by omega), hy.1.high (by omega), h1.wv.high (by omega), h2.wv.high (by omega)]
  · rw [mk, decide_eq_true h64] at hk
    refine ⟨v1, v2, bor v1 m1, bor v2 m2, mem_low h1.wv, mem_low h2.wv, mem_high h1.wv h1.wm, mem_high h2.wv h2.wm, ?_⟩
    rw [bk, bk, bk, bk]
    exact or_bool2 _ _ _ _ hk
theorem xor_op (h1 : Tn v1 m1) (h2 : Tn v2 m2) : Op2 bxor v1 m1 v2 m2 (woV (bxor v1 v2) (bor m1 m2)) (bor m1 m2 % B64) := by
  have bk : ∀ x y k, tb (bor x y) k = (tb x k || tb y k) := fun x y k => tb_bor x y k
  have xk : ∀ x y k, tb (bxor x y) k = (tb x k ^^ tb y k) := fun x y k => tb_bxor x y k
  refine ⟨wd_woV _ _, wd_mod _, apart_woV _ _, fun x y hx hy => ⟨Wd.bxor hx.1 hy.1, fun k hk => ?_⟩, fun k h64 hk => ?_⟩
  · rw [xk, tb_woV, xk, bk]
    rw [tb_modB, bk] at hk
    by_cases h64 : k < 64
    · rw [decide_eq_true h64, Bool.true_and] at hk
      rw [decide_eq_true h64]
      exact xor_bool _ _ _ _ _ _ (hx.2 k) (hy.2 k) hk
    · rw [hx.1.high (by omega), hy.1.high (by omega), decide_eq_false h64]; rfl
  · rw [tb_modB, bk, decide_eq_true h64] at hk
    cases c1 : tb m1 k with
    | true =>
      refine ⟨v1, v2, bor v1 (2 ^ k), v2, mem_low h1.wv, mem_low h2.wv, mem_bit h1.wv h64 c1, mem_low h2.wv, ?_⟩
      have := or_pow_ne h1.ap c1
      rw [xk, xk]
      exact xor_bool1 _ _ _ this
    | false =>
      have c2 : tb m2 k = true := by rw [c1] at hk; simpa using hk
      refine ⟨v1, v2, v1, bor v2 (2 ^ k), mem_low h1.wv, mem_low h2.wv, mem_low h1.wv, mem_bit h2.wv h64 c2, ?_⟩
      have := or_pow_ne h2.ap c2
      rw [xk, xk]
      exact xor_bool2 _ _ _ this
end
end Mine

set_option autoImplicit false
namespace Mine
open PySem
set_option linter.unusedSimpArgs false

/-- an op of one is sound and best -/
structure Op1 (f : Int → Int) (v m V M : Int) : Prop where
  wV : Wd 64 V
  wM : Wd 64 M
  ap : Apart V M
  sound : ∀ x, Mem v m x → Mem V M (f x)
  best : ∀ k, k < 64 → tb M k = true → ∃ x x', Mem v m x ∧ Mem v m x' ∧ tb (f x) k ≠ tb (f x') k
/-- each bit of the answer is a bit of the word, or nought -/
structure Sel (f : Int → Int) (p : Nat → Option Nat) : Prop where
  wd : ∀ x, Wd 64 x → Wd 64 (f x)
  low : ∀ k j, p k = some j → j < 64
  bit : ∀ x, Wd 64 x → ∀ k, tb (f x) k = match p k with
    | some j => tb x j
    | none => false
theorem sel_op {f : Int → Int} {p : Nat → Option Nat} {v m : Int} (h : Tn v m) (s : Sel f p) : Op1 f v m (f v) (f m) := by
  refine ⟨s.wd v h.wv, s.wd m h.wm, fun k hk => ?_, fun x hx => ⟨s.wd x hx.1, fun k hk => ?_⟩, fun k h64 hk => ?_⟩
  · rw [s.bit m h.wm] at hk
    rw [s.bit v h.wv]
    cases q : p k with
    | none => rfl
    | some j => rw [q] at hk; exact h.ap j hk
  · rw [s.bit m h.wm] at hk
    rw [s.bit v h.wv, s.bit x hx.1]
    cases q : p k with
    | none => rfl
    | some j => rw [q] at hk; exact hx.2 j hk
  · rw [s.bit m h.wm] at hk
    cases q : p k with
    | none => rw [q] at hk; cases hk
    | some j =>
      rw [q] at hk
      refine ⟨v, bor v (2 ^ j), mem_low h.wv, mem_bit h.wv (s.low k j q) hk, ?_⟩
      rw [s.bit v h.wv, s.bit _ (h.wv.bor (wd_pow (s.low k j q))), q]
      exact or_pow_ne h.ap hk
theorem tn_zero : Tn 0 0 := ⟨⟨by decide, by decide⟩, ⟨by decide, by decide⟩, fun k _ => tb_zero k⟩
theorem mem_zero {x : Int} : Mem 0 0 x ↔ x = 0 := by
  refine ⟨fun h => Wd.ext h.1 ⟨by decide, by decide⟩ fun k _ => h.2 k (tb_zero k), fun h => ?_⟩
  subst h; exact mem_low ⟨by decide, by decide⟩
theorem neg_op {v m : Int} (h : Tn v m) : Op1 (fun x => (0 - x) % B64) v m (woV (0 - v) (bor (bor (bxor (0 - v + 0) (0 - v - m)) 0) m)) (bor (bor (bxor (0 - v + 0) (0 - v - m)) 0) m % B64) := by
  have s := sub_op tn_zero h
  refine ⟨s.wV, s.wM, s.ap, fun x hx => s.sound 0 x (mem_zero.mpr rfl) hx, fun k h64 hk => ?_⟩
  obtain ⟨x, y, x', y', hx, hy, hx', hy', e⟩ := s.best k h64 hk
  rw [mem_zero.mp hx, mem_zero.mp hx'] at e
  exact ⟨y, y', hy, hy', e⟩

theorem sg_small {w : Int} {n : Nat} (h : 1 ≤ n) : sg w n = w % 2 ^ (n - 1) - if tb w (n - 1) then 2 ^ (n - 1) else 0 := by
  obtain ⟨j, rfl⟩ : ∃ j, n = j + 1 := ⟨n - 1, by omega⟩
  rw [Nat.add_sub_cancel]
  unfold sg
  rw [mod_succ w, Nat.add_sub_cancel]
  have h1 := (Wd.mod j w).1
  have h2 := (Wd.mod j w).2
  have e : (2 : Int) ^ (j + 1) = 2 ^ j * 2 := Int.pow_succ 2 j
  cases q : tb w j with
  | true => simp only [if_true]; rw [if_pos (by omega)]; omega
  | false => simp only [Bool.false_eq_true, if_false]; rw [if_neg (by omega)]; omega
theorem tb_sg (w : Int) {n : Nat} (h : 1 ≤ n) (k : Nat) : tb (sg w n) k = tb w (if k < n then k else n - 1) := by
  obtain ⟨j, rfl⟩ : ∃ j, n = j + 1 := ⟨n - 1, by omega⟩
  rw [Nat.add_sub_cancel]
  rw [sg_small h, Nat.add_sub_cancel]
  cases q : tb w j with
  | false =>
    simp only [Bool.false_eq_true, if_false, Int.sub_zero]
    rw [tb_mod]
    by_cases hk : k < j
    · rw [if_pos (by omega), decide_eq_true hk, Bool.true_and]
    · rw [decide_eq_false hk, Bool.false_and]
      by_cases hk2 : k < j + 1
      · rw [if_pos hk2, show k = j by omega, q]
      · rw [if_neg hk2, q]
  | true =>
    simp only [if_true]
    have hs : Sub (w % 2 ^ j) (2 ^ j - 1) := fun i hi => by
      rw [tb_mod] at hi; rw [tb_mask]; simp at hi ⊢; exact hi.1
    have e : w % 2 ^ j - 2 ^ j = -((2 ^ j - 1) - w % 2 ^ j) - 1 := by omega
    rw [e, tb_not, tb_subm hs, tb_mask, tb_mod]
    by_cases hk : k < j
    · rw [if_pos (by omega), decide_eq_true hk]; simp
    · rw [decide_eq_false hk]
      by_cases hk2 : k < j + 1
      · rw [if_pos hk2, show k = j by omega, q]; rfl
      · rw [if_neg hk2, q]; rfl

theorem sel_lsh {n : Nat} : Sel (fun x => x * 2 ^ n % B64) (fun k => if k < 64 ∧ n ≤ k then some (k - n) else none) := by
  refine ⟨fun x _ => wd_mod _, fun k j h => ?_, fun x hx k => ?_⟩
  · try dsimp only at h
    split at h
    · cases h; omega
    · cases h
  · try dsimp only
    rw [tb_modB, tb_mul]
    by_cases h : k < 64 ∧ n ≤ k
    · rw [if_pos h, decide_eq_true h.1, decide_eq_true h.2]; rfl
    · rw [if_neg h]
      by_cases h2 : k < 64
      · rw [decide_eq_false (p := n ≤ k) fun q => h ⟨h2, q⟩]; simp
      · rw [decide_eq_false h2]; rfl
theorem sel_rsh {n : Nat} : Sel (fun x => x / 2 ^ n) (fun k => if n + k < 64 then some (n + k) else none) := by
  refine ⟨fun x hx => ⟨Int.ediv_nonneg hx.1 (Int.le_of_lt (pow_pos2 n)), ?_⟩, fun k j h => ?_, fun x hx k => ?_⟩
  · have := Int.ediv_le_self (2 ^ n) hx.1
    have := hx.2
    omega
  · try dsimp only at h
    split at h
    · cases h; omega
    · cases h
  · try dsimp only
    rw [tb_div]
    by_cases h : n + k < 64
    · rw [if_pos h]
    · rw [if_neg h, hx.high (by omega)]
theorem sel_arsh {n z : Nat} (h1 : 1 ≤ z) (h2 : z ≤ 64) : Sel (fun x => sg x z / 2 ^ n % 2 ^ z) (fun k => if k < z then some (if n + k < z then n + k else z - 1) else none) := by
  refine ⟨fun x _ => ?_, fun k j h => ?_, fun x hx k => ?_⟩
  · have a := Wd.mod z (sg x z / 2 ^ n)
    have : (2 : Int) ^ 64 = 2 ^ z * 2 ^ (64 - z) := by rw [← pow_split]; congr 1; omega
    have p1 := pow_pos2 z
    have p2 := pow_pos2 (64 - z)
    have := Int.mul_le_mul_of_nonneg_left (show (1 : Int) ≤ 2 ^ (64 - z) by omega) (Int.le_of_lt p1)
    exact ⟨a.1, by have := a.2; omega⟩
  · try dsimp only at h
    split at h
    · cases h; split <;> omega
    · cases h
  · try dsimp only
    rw [tb_mod, tb_div, tb_sg x h1]
    by_cases h : k < z
    · rw [if_pos h, decide_eq_true h]; simp
    · rw [if_neg h, decide_eq_false h]; rfl
theorem sel_low {n : Nat} (h : n ≤ 64) : Sel (fun x => x % 2 ^ n) (fun k => if k < n then some k else none) := by
  refine ⟨fun x _ => ?_, fun k j e => ?_, fun x hx k => ?_⟩
  · have a := Wd.mod n x
    have : (2 : Int) ^ 64 = 2 ^ n * 2 ^ (64 - n) := by rw [← pow_split]; congr 1; omega
    have p1 := pow_pos2 n
    have p2 := pow_pos2 (64 - n)
    have := Int.mul_le_mul_of_nonneg_left (show (1 : Int) ≤ 2 ^ (64 - n) by omega) (Int.le_of_lt p1)
    exact ⟨a.1, by have := a.2; omega⟩
  · try dsimp only at e
    split at e
    · cases e; omega
    · cases e
  · try dsimp only
    rw [tb_mod]
    by_cases h : k < n
    · rw [if_pos h, decide_eq_true h]; rfl
    · rw [if_neg h, decide_eq_false h]; rfl
theorem sel_sign {n : Nat} (h1 : 1 ≤ n) (h2 : n ≤ 64) : Sel (fun x => sg x n % B64) (fun k => if k < 64 then some (if k < n then k else n - 1) else none) := by
  refine ⟨fun x _ => wd_mod _, fun k j e => ?_, fun x hx k => ?_⟩
  · try dsimp only at e
    split at e
    · cases e; split <;> omega
    · cases e
  · try dsimp only
    rw [tb_modB, tb_sg x h1]
    by_cases h : k < 64
    · rw [if_pos h, decide_eq_true h]; rfl
    · rw [if_neg h, decide_eq_false h]; rfl
theorem tb_byte {t b : Int} (ht : 0 ≤ t) (hb : 0 ≤ b) (h : b < 256) (k : Nat) : tb (t * 256 + b) k = if k < 8 then tb b k else tb t (k - 8) := by
  rw [← bor_low ht hb h, tb_bor, show t * 256 = t * 2 ^ 8 from rfl, tb_mul]
  have wb : Wd 8 b := ⟨hb, h⟩
  by_cases hk : k < 8
  · rw [if_pos hk, decide_eq_false (by omega), Bool.false_and, Bool.false_or]
  · rw [if_neg hk, wb.high (by omega), decide_eq_true (by omega), Bool.true_and, Bool.or_false]
theorem sel_turn : ∀ w : Nat, w ≤ 8 → ∃ p, Sel (fun x => turn x w) p
  | 0, _ => ⟨fun _ => none, fun x _ => by show Wd 64 0; exact ⟨by decide, by decide⟩, fun _ _ h => (by cases h), fun x _ k => tb_zero k⟩
  | w + 1, h => by
    obtain ⟨p, s⟩ := sel_turn w (by omega)
    refine ⟨fun k => if k < 8 then some (8 * w + k) else p (k - 8), fun x hx => ?_, fun k j e => ?_, fun x hx k => ?_⟩
    · have a := turn_wd x (w + 1)
      have := pow_256_le h
      have : (256 : Int) ^ 8 = 18446744073709551616 := by decide
      exact ⟨a.1, by have := a.2; omega⟩
    · try dsimp only at e
      split at e
      · cases e; omega
      · exact s.low _ _ e
    · try dsimp only
      rw [turn_succ, tb_byte (turn_wd x w).1 (Int.emod_nonneg _ (by decide)) (Int.emod_lt_of_pos _ (by decide))]
      by_cases hk : k < 8
      · rw [if_pos hk, if_pos hk, show (256 : Int) = 2 ^ 8 from rfl, ← Int.pow_mul, tb_mod, tb_div, decide_eq_true hk]; rfl
      · rw [if_neg hk, if_neg hk]; exact s.bit x hx _

/-- membership of the list -/
theorem add_pow_is {y : Int} {p : Nat} (hy : Wd 64 y) (hp : p < 64) (h : tb y p = false) : y + 2 ^ p = bor y (2 ^ p) := by
  rw [bor_apart hy (wd_pow hp)]
  intro k hk
  rw [tb_pow] at hk
  have := of_decide_eq_true hk
  subst this; exact h
theorem mem_memsOf {v : Int} (hv : Wd 64 v) : ∀ {l : List Nat}, l.Nodup → (∀ p ∈ l, p < 64 ∧ tb v p = false) → ∀ x, x ∈ memsOf v l ↔ Wd 64 x ∧ ∀ k, k ∉ l → tb x k = tb v k
  | [], _, _, x => by
    simp only [memsOf, List.mem_singleton]
    refine ⟨fun h => ?_, fun h => Wd.ext h.1 hv fun k _ => h.2 k (by simp)⟩
    subst h; exact ⟨hv, fun _ _ => rfl⟩
  | p :: r, hd, hp, x => by
    obtain ⟨d1, d2⟩ := List.nodup_cons.mp hd
    have ih := mem_memsOf hv d2 (fun q hq => hp q (by simp [hq]))
    obtain ⟨p64, pv⟩ := hp p (by simp)
    simp only [memsOf, List.mem_append, List.mem_map]
    constructor
    · rintro (h | ⟨y, h, rfl⟩)
      · have := (ih x).mp h
        exact ⟨this.1, fun k hk => this.2 k fun q => hk (by simp [q])⟩
      · obtain ⟨h1, h2⟩ := (ih y).mp h
        rw [add_pow_is h1 p64 ((h2 p d1).trans pv)]
        refine ⟨h1.bor (wd_pow p64), fun k hk => ?_⟩
        rw [tb_or_pow, decide_eq_false (fun q => hk (by simp [q])), Bool.or_false]
        exact h2 k fun q => hk (by simp [q])
    · rintro ⟨h1, h2⟩
      cases q : tb x p with
      | false =>
        refine .inl ((ih x).mpr ⟨h1, fun k hk => ?_⟩)
        by_cases e : k = p
        · subst e; rw [q, pv]
        · exact h2 k (by simp [e, hk])
      | true =>
        have hs : Sub (2 ^ p) x := fun k hk => by
          rw [tb_pow] at hk
          have := of_decide_eq_true hk
          subst this; exact q
        refine .inr ⟨x - 2 ^ p, (ih _).mpr ⟨h1.sub (wd_pow p64) hs, fun k hk => ?_⟩, by omega⟩
        rw [tb_subm hs, tb_pow]
        by_cases e : k = p
        · subst e; rw [pv, decide_eq_true rfl]; simp
        · rw [decide_eq_false e]
          simpa using h2 k (by simp [e, hk])
theorem mem_bitsOf {m : Int} {k : Nat} : k ∈ bitsOf m ↔ k < 64 ∧ tb m k = true := by
  rw [bits_is, List.mem_filter, List.mem_range]
theorem bits_nodup (m : Int) : (bitsOf m).Nodup := by
  rw [bits_is]; exact List.nodup_range.sublist List.filter_sublist
theorem bits_rev {v m : Int} (h : Tn v m) : (bitsOf m).reverse.Nodup ∧ ∀ p ∈ (bitsOf m).reverse, p < 64 ∧ tb v p = false :=
  ⟨(List.reverse_perm _).symm.nodup (bits_nodup m), fun p hp => by
    have := mem_bitsOf.mp (List.mem_reverse.mp hp)
    exact ⟨this.1, h.ap p this.2⟩⟩
theorem mem_mems {v m x : Int} (h : Tn v m) : x ∈ mems v m ↔ Mem v m x := by
  unfold mems
  obtain ⟨h1, h2⟩ := bits_rev h
  rw [mem_memsOf h.wv h1 h2]
  refine ⟨fun ⟨a, b⟩ => ⟨a, fun k hk => b k fun q => ?_⟩, fun ⟨a, b⟩ => ⟨a, fun k hk => ?_⟩⟩
  · have := (mem_bitsOf.mp (List.mem_reverse.mp q)).2
    rw [hk] at this; cases this
  · by_cases h64 : k < 64
    · refine b k ?_
      cases q : tb m k with
      | false => rfl
      | true => exact absurd (List.mem_reverse.mpr (mem_bitsOf.mpr ⟨h64, q⟩)) hk
    · rw [a.high (by omega), h.wv.high (by omega)]
theorem memsOf_cons (v : Int) : ∀ l, ∃ t, memsOf v l = v :: t
  | [] => ⟨[], rfl⟩
  | p :: r => by obtain ⟨t, e⟩ := memsOf_cons v r; exact ⟨_, by rw [memsOf, e]; rfl⟩
theorem mems_cons (v m : Int) : ∃ t, mems v m = v :: t := memsOf_cons v _
theorem mems_ne (v m : Int) : mems v m ≠ [] := by obtain ⟨t, e⟩ := mems_cons v m; rw [e]; simp
theorem memsOf_len (v : Int) : ∀ l : List Nat, (memsOf v l).length = 2 ^ l.length
  | [] => rfl
  | p :: r => by rw [memsOf, List.length_append, List.length_map, memsOf_len v r, List.length_cons, Nat.pow_succ]; omega
theorem mems_len (v m : Int) : (mems v m).length = 2 ^ (bitsOf m).length := by unfold mems; rw [memsOf_len, List.length_reverse]
theorem mems_few {v m : Int} (h : W3 v m) : (mems v m).length ≤ 8 := by
  rw [mems_len]
  have := h.few
  have := Nat.pow_le_pow_right (show 0 < 2 by decide) this
  omega
theorem memsOf_nodup {v : Int} (hv : Wd 64 v) : ∀ {l : List Nat}, l.Nodup → (∀ p ∈ l, p < 64 ∧ tb v p = false) → (memsOf v l).Nodup
  | [], _, _ => by simp [memsOf]
  | p :: r, hd, hp => by
    obtain ⟨d1, d2⟩ := List.nodup_cons.mp hd
    have hp' := fun q hq => hp q (List.mem_cons_of_mem p hq)
    have ih := memsOf_nodup hv d2 hp'
    obtain ⟨p64, pv⟩ := hp p (by simp)
    rw [memsOf, List.nodup_append]
    refine ⟨ih, ?_, fun a ha b hb e => ?_⟩
    · exact List.Pairwise.map _ (fun a b h q => h (by omega)) ih
    · obtain ⟨y, hy, rfl⟩ := List.mem_map.mp hb
      have h1 := (mem_memsOf hv d2 hp' a).mp ha
      have h2 := (mem_memsOf hv d2 hp' y).mp hy
      have e1 : tb a p = false := (h1.2 p d1).trans pv
      have e2 : tb y p = false := (h2.2 p d1).trans pv
      rw [e, add_pow_is h2.1 p64 e2, tb_or_pow, decide_eq_true rfl] at e1
      simp at e1
theorem mems_nodup {v m : Int} (h : Tn v m) : (mems v m).Nodup := memsOf_nodup h.wv (bits_rev h).1 (bits_rev h).2

/-- an op's answers, and what is told of them -/
theorem best1 {f : Int → Int} {v m V M : Int} (h : Tn v m) (o : Op1 f v m V M) : andAll ((mems v m).map f) = V ∧ orAll ((mems v m).map f) - andAll ((mems v m).map f) = M := by
  refine best_is (by simpa using mems_ne v m) (fun x hx => ?_) o.wV o.wM o.ap (fun x hx => ?_) (fun k h64 hk => ?_)
  · obtain ⟨y, hy, rfl⟩ := List.mem_map.mp hx
    exact (o.sound y ((mem_mems h).mp hy)).1
  · obtain ⟨y, hy, rfl⟩ := List.mem_map.mp hx
    exact o.sound y ((mem_mems h).mp hy)
  · obtain ⟨x, x', hx, hx', e⟩ := o.best k h64 hk
    exact ⟨_, List.mem_map.mpr ⟨x, (mem_mems h).mpr hx, rfl⟩, _, List.mem_map.mpr ⟨x', (mem_mems h).mpr hx', rfl⟩, e⟩
noncomputable def prs (xs ys : List Int) : List (Int × Int) := xs.flatMap fun x => ys.map fun y => (x, y)
theorem mem_prs {xs ys : List Int} {p : Int × Int} : p ∈ prs xs ys ↔ p.1 ∈ xs ∧ p.2 ∈ ys := by
  unfold prs
  rw [List.mem_flatMap]
  constructor
  · rintro ⟨x, hx, h⟩
    obtain ⟨y, hy, rfl⟩ := List.mem_map.mp h
    exact ⟨hx, hy⟩
  · rintro ⟨h1, h2⟩
    exact ⟨p.1, h1, List.mem_map.mpr ⟨p.2, h2, rfl⟩⟩
theorem best2 {f : Int → Int → Int} {v1 m1 v2 m2 V M : Int} (h1 : Tn v1 m1) (h2 : Tn v2 m2) (o : Op2 f v1 m1 v2 m2 V M) :
    andAll ((prs (mems v1 m1) (mems v2 m2)).map fun p => f p.1 p.2) = V ∧ orAll ((prs (mems v1 m1) (mems v2 m2)).map fun p => f p.1 p.2) - andAll ((prs (mems v1 m1) (mems v2 m2)).map fun p => f p.1 p.2) = M := by
  have hm : ∀ x y, Mem v1 m1 x → Mem v2 m2 y → f x y ∈ (prs (mems v1 m1) (mems v2 m2)).map fun p => f p.1 p.2 := fun x y hx hy =>
    List.mem_map.mpr ⟨(x, y), mem_prs.mpr ⟨(mem_mems h1).mpr hx, (mem_mems h2).mpr hy⟩, rfl⟩
  have ho : ∀ z ∈ (prs (mems v1 m1) (mems v2 m2)).map (fun p => f p.1 p.2), Mem V M z := fun z hz => by
    obtain ⟨p, hp, rfl⟩ := List.mem_map.mp hz
    obtain ⟨a, b⟩ := mem_prs.mp hp
    exact o.sound _ _ ((mem_mems h1).mp a) ((mem_mems h2).mp b)
  refine best_is (List.ne_nil_of_mem (hm v1 v2 (mem_low h1.wv) (mem_low h2.wv))) (fun x hx => (ho x hx).1) o.wV o.wM o.ap ho (fun k h64 hk => ?_)
  obtain ⟨x, y, x', y', hx, hy, hx', hy', e⟩ := o.best k h64 hk
  exact ⟨_, hm x y hx hy, _, hm x' y' hx' hy', e⟩
theorem prs_ne {v1 m1 v2 m2 : Int} (h1 : Tn v1 m1) (h2 : Tn v2 m2) : prs (mems v1 m1) (mems v2 m2) ≠ [] :=
  List.ne_nil_of_mem ((mem_prs (p := (v1, v2))).mpr ⟨(mem_mems h1).mpr (mem_low h1.wv), (mem_mems h2).mpr (mem_low h2.wv)⟩)

section
variable {v1 m1 v2 m2 : Int}
theorem join_bool : ∀ a b c d x y : Bool, (b = false → x = a) → (d = false → y = c) → (b || d || (a ^^ c)) = false → x = (true && a && !(b || d || (a ^^ c))) ∧ y = (true && a && !(b || d || (a ^^ c))) := by decide
theorem best_join (h1 : Tn v1 m1) (h2 : Tn v2 m2) : andAll (mems v1 m1 ++ mems v2 m2) = woV v1 (bor (bor m1 m2) (bxor v1 v2)) ∧ orAll (mems v1 m1 ++ mems v2 m2) - andAll (mems v1 m1 ++ mems v2 m2) = bor (bor m1 m2) (bxor v1 v2) % B64 := by
  have mk : ∀ k, tb (bor (bor m1 m2) (bxor v1 v2)) k = (tb m1 k || tb m2 k || (tb v1 k ^^ tb v2 k)) := fun k => by
    show tb (Builtin.bitOr (Builtin.bitOr m1 m2) (Builtin.bitXor v1 v2)) k = _
    rw [tb_bor, tb_bor, tb_bxor]
  have i1 : ∀ x, Mem v1 m1 x → x ∈ mems v1 m1 ++ mems v2 m2 := fun x hx => List.mem_append.mpr (.inl ((mem_mems h1).mpr hx))
  have i2 : ∀ x, Mem v2 m2 x → x ∈ mems v1 m1 ++ mems v2 m2 := fun x hx => List.mem_append.mpr (.inr ((mem_mems h2).mpr hx))
  have hw : ∀ x ∈ mems v1 m1 ++ mems v2 m2, Wd 64 x := fun x hx => by
    rcases List.mem_append.mp hx with q | q
    · exact ((mem_mems h1).mp q).1
    · exact ((mem_mems h2).mp q).1
  refine best_is (List.ne_nil_of_mem (i1 v1 (mem_low h1.wv))) hw (wd_woV _ _) (wd_mod _) (apart_woV _ _) (fun x hx => ⟨hw x hx, fun k hk => ?_⟩) (fun k h64 hk => ?_)
  · rw [tb_modB, mk] at hk
    rw [tb_woV, mk]
    by_cases h64 : k < 64
    · rw [decide_eq_true h64, Bool.true_and] at hk
      rw [decide_eq_true h64]
      rcases List.mem_append.mp hx with q | q
      · exact (join_bool _ _ _ _ _ (tb v2 k) (((mem_mems h1).mp q).2 k) (fun _ => rfl) hk).1
      · exact (join_bool _ _ _ _ (tb v1 k) _ (fun _ => rfl) (((mem_mems h2).mp q).2 k) hk).2
    · rw [(hw x hx).high (by omega), decide_eq_false h64]; rfl
  · rw [tb_modB, mk, decide_eq_true h64, Bool.true_and] at hk
    cases c1 : tb m1 k with
    | true => exact ⟨v1, i1 _ (mem_low h1.wv), _, i1 _ (mem_bit h1.wv h64 c1), or_pow_ne h1.ap c1⟩
    | false =>
      cases c2 : tb m2 k with
      | true => exact ⟨v2, i2 _ (mem_low h2.wv), _, i2 _ (mem_bit h2.wv h64 c2), or_pow_ne h2.ap c2⟩
      | false =>
        refine ⟨v1, i1 _ (mem_low h1.wv), v2, i2 _ (mem_low h2.wv), ?_⟩
        rw [c1, c2] at hk
        intro q; rw [q] at hk; simp at hk

theorem with_tb (x y : Int) (hx : Wd 64 x) (hy : Wd 64 y) (k : Nat) : tb (x - x % 4294967296 + y % 4294967296) k = if k < 32 then tb y k else tb x k := by
  have hs : Sub (x % 2 ^ 32) x := fun j hj => by rw [tb_mod] at hj; simp at hj; exact hj.2
  have w1 : Wd 64 (x - x % 2 ^ 32) := hx.sub ⟨(Wd.mod 32 x).1, by exact Int.lt_trans (Wd.mod 32 x).2 (by decide)⟩ hs
  have w2 : Wd 64 (y % 2 ^ 32) := ⟨(Wd.mod 32 y).1, by exact Int.lt_trans (Wd.mod 32 y).2 (by decide)⟩
  have b1 : ∀ j, tb (x - x % 2 ^ 32) j = (tb x j && !decide (j < 32)) := fun j => by
    rw [tb_subm hs, tb_mod]
    cases decide (j < 32) <;> cases tb x j <;> rfl
  have hap : Apart (x - x % 2 ^ 32) (y % 2 ^ 32) := fun j hj => by
    rw [tb_mod] at hj
    have := (Bool.and_eq_true _ _ ▸ hj : _ ∧ _).1
    rw [b1, this]; simp
  show tb (x - x % 2 ^ 32 + y % 2 ^ 32) k = _
  rw [← bor_apart w1 w2 hap]
  show tb (Builtin.bitOr (x - x % 2 ^ 32) (y % 2 ^ 32)) k = _
  rw [tb_bor, b1, tb_mod]
  by_cases h : k < 32
  · rw [if_pos h, decide_eq_true h]; simp
  · rw [if_neg h, decide_eq_false h]; simp
theorem with_wd {x y : Int} (hx : Wd 64 x) (hy : Wd 64 y) : Wd 64 (x - x % 4294967296 + y % 4294967296) := by
  have h1 := hx.1
  have h2 := hx.2
  have e : (2 : Int) ^ 64 = 18446744073709551616 := by decide
  exact ⟨by omega, by omega⟩
theorem with_op (h1 : Tn v1 m1) (h2 : Tn v2 m2) : Op2 (fun x y => x - x % 4294967296 + y % 4294967296) v1 m1 v2 m2 (v1 - v1 % 4294967296 + v2 % 4294967296) (m1 - m1 % 4294967296 + m2 % 4294967296) := by
  refine ⟨with_wd h1.wv h2.wv, with_wd h1.wm h2.wm, fun k hk => ?_, fun x y hx hy => ⟨with_wd hx.1 hy.1, fun k hk => ?_⟩, fun k h64 hk => ?_⟩
  · rw [with_tb _ _ h1.wm h2.wm] at hk
    rw [with_tb _ _ h1.wv h2.wv]
    by_cases h : k < 32
    · rw [if_pos h] at hk ⊢; exact h2.ap k hk
    · rw [if_neg h] at hk ⊢; exact h1.ap k hk
  · rw [with_tb _ _ h1.wm h2.wm] at hk
    rw [with_tb _ _ h1.wv h2.wv, with_tb _ _ hx.1 hy.1]
    by_cases h : k < 32
    · rw [if_pos h] at hk; rw [if_pos h, if_pos h]; exact hy.2 k hk
    · rw [if_neg h] at hk; rw [if_neg h, if_neg h]; exact hx.2 k hk
  · rw [with_tb _ _ h1.wm h2.wm] at hk
    by_cases h : k < 32
    · rw [if_pos h] at hk
      refine ⟨v1, v2, v1, bor v2 (2 ^ k), mem_low h1.wv, mem_low h2.wv, mem_low h1.wv, mem_bit h2.wv h64 hk, ?_⟩
      rw [with_tb _ _ h1.wv h2.wv, with_tb _ _ h1.wv (mem_bit h2.wv h64 hk).1, if_pos h, if_pos h]
      exact or_pow_ne h2.ap hk
    · rw [if_neg h] at hk
      refine ⟨v1, v2, bor v1 (2 ^ k), v2, mem_low h1.wv, mem_low h2.wv, mem_bit h1.wv h64 hk, mem_low h2.wv, ?_⟩
      rw [with_tb _ _ h1.wv h2.wv, with_tb _ _ (mem_bit h1.wv h64 hk).1 h2.wv, if_neg h, if_neg h]
      exact or_pow_ne h1.ap hk

/-- contains -/
theorem contains_iff {v m x : Int} (h : Tn v m) (hx : Wd 64 x) : x - band x m = v ↔ Mem v m x := by
  have hs : Sub (Builtin.bitAnd x m) x := fun j hj => by rw [tb_band] at hj; simp at hj; exact hj.1
  have hb : ∀ k, tb (x - band x m) k = (tb x k && !tb m k) := fun k => by
    show tb (x - Builtin.bitAnd x m) k = _
    rw [tb_subm hs, tb_band]
    cases tb x k <;> cases tb m k <;> rfl
  have hw : Wd 64 (x - band x m) := hx.sub hx.band hs
  constructor
  · intro e
    refine ⟨hx, fun k hk => ?_⟩
    have := hb k
    rw [e, hk] at this
    rw [this]; simp
  · intro hm
    refine Wd.ext hw h.wv fun k _ => ?_
    rw [hb]
    cases q : tb m k with
    | true => rw [h.ap k q]; simp
    | false => rw [hm.2 k q]; simp

noncomputable def common (v1 m1 v2 m2 : Int) : List Int := (mems v1 m1).filter fun x => (mems v2 m2).any (· == x)
theorem mem_common (h1 : Tn v1 m1) (h2 : Tn v2 m2) {x : Int} : x ∈ common v1 m1 v2 m2 ↔ Mem v1 m1 x ∧ Mem v2 m2 x := by
  unfold common
  rw [List.mem_filter, mem_mems h1, List.any_eq_true]
  refine ⟨fun ⟨a, y, hy, e⟩ => ⟨a, ?_⟩, fun ⟨a, b⟩ => ⟨a, x, (mem_mems h2).mpr b, by simp⟩⟩
  rw [← beq_iff_eq.mp e]; exact (mem_mems h2).mp hy
theorem meet_bits (k : Nat) : tb (band (bxor v1 v2) (bxor M64 (bor m1 m2))) k = ((tb v1 k ^^ tb v2 k) && (decide (k < 64) ^^ (tb m1 k || tb m2 k))) := by
  show tb (Builtin.bitAnd (Builtin.bitXor v1 v2) (Builtin.bitXor M64 (Builtin.bitOr m1 m2))) k = _
  rw [tb_band, tb_bxor, tb_bxor, tb_bor, tb_M64]
theorem meet_none (h1 : Tn v1 m1) (h2 : Tn v2 m2) (h : band (bxor v1 v2) (bxor M64 (bor m1 m2)) ≠ 0) : common v1 m1 v2 m2 = [] := by
  refine List.eq_nil_iff_forall_not_mem.mpr fun x hx => h ?_
  obtain ⟨a, b⟩ := (mem_common h1 h2).mp hx
  refine Wd.ext (n := 64) (Wd.band (h1.wv.bxor h2.wv)) ⟨by decide, by decide⟩ fun k h64 => ?_
  rw [meet_bits, tb_zero, decide_eq_true h64]
  have a1 := a.2 k
  have b1 := b.2 k
  revert a1 b1
  generalize tb v1 k = a, tb v2 k = b, tb m1 k = c, tb m2 k = d, tb x k = e
  revert a b c d e
  decide
theorem meet_bool : ∀ a b c d x : Bool, (b = false → x = a) → (d = false → x = c) → (b = true → a = false) → (d = true → c = false) → (b && d) = false → x = (true && (a || c) && !(b && d)) := by decide
theorem meet_bool2 : ∀ a b c d : Bool, ((a ^^ c) && (true ^^ (b || d))) = false → (d = true → c = false) → b = false → (a || c) = a := by decide
theorem meet_low (h1 : Tn v1 m1) (h2 : Tn v2 m2) (h : band (bxor v1 v2) (bxor M64 (bor m1 m2)) = 0) : Mem v1 m1 (bor v1 v2) ∧ Mem v2 m2 (bor v1 v2) := by
  have hk : ∀ k, k < 64 → ((tb v1 k ^^ tb v2 k) && (true ^^ (tb m1 k || tb m2 k))) = false := fun k h64 => by
    have := meet_bits (v1 := v1) (v2 := v2) (m1 := m1) (m2 := m2) k
    rw [h, tb_zero, decide_eq_true h64] at this
    exact this.symm
  have bk : ∀ k, tb (bor v1 v2) k = (tb v1 k || tb v2 k) := fun k => tb_bor v1 v2 k
  refine ⟨⟨h1.wv.bor h2.wv, fun k q => ?_⟩, ⟨h1.wv.bor h2.wv, fun k q => ?_⟩⟩
  · rw [bk]
    by_cases h64 : k < 64
    · exact meet_bool2 _ _ _ _ (hk k h64) (h2.ap k) q
    · rw [h1.wv.high (by omega), h2.wv.high (by omega)]; rfl
  · rw [bk, Bool.or_comm]
    by_cases h64 : k < 64
    · refine meet_bool2 _ _ _ _ ?_ (h1.ap k) q
      rw [Bool.xor_comm, Bool.or_comm]; exact hk k h64
    · rw [h1.wv.high (by omega), h2.wv.high (by omega)]; rfl
theorem best_meet (h1 : Tn v1 m1) (h2 : Tn v2 m2) (h : band (bxor v1 v2) (bxor M64 (bor m1 m2)) = 0) : common v1 m1 v2 m2 ≠ [] ∧ andAll (common v1 m1 v2 m2) = woV (bor v1 v2) (band m1 m2) ∧ orAll (common v1 m1 v2 m2) - andAll (common v1 m1 v2 m2) = band m1 m2 % B64 := by
  obtain ⟨l1, l2⟩ := meet_low h1 h2 h
  have bk : ∀ k, tb (bor v1 v2) k = (tb v1 k || tb v2 k) := fun k => tb_bor v1 v2 k
  have ak : ∀ k, tb (band m1 m2) k = (tb m1 k && tb m2 k) := fun k => tb_band m1 m2 k
  have hne := List.ne_nil_of_mem ((mem_common h1 h2).mpr ⟨l1, l2⟩)
  refine ⟨hne, best_is hne (fun x hx => ((mem_common h1 h2).mp hx).1.1) (wd_woV _ _) (wd_mod _) (apart_woV _ _) (fun x hx => ?_) (fun k h64 hk => ?_)⟩
  · obtain ⟨a, b⟩ := (mem_common h1 h2).mp hx
    refine ⟨a.1, fun k hk => ?_⟩
    rw [tb_modB, ak] at hk
    rw [tb_woV, bk, ak]
    by_cases h64 : k < 64
    · rw [decide_eq_true h64, Bool.true_and] at hk
      rw [decide_eq_true h64]
      exact meet_bool _ _ _ _ _ (a.2 k) (b.2 k) (h1.ap k) (h2.ap k) hk
    · rw [a.1.high (by omega), decide_eq_false h64]; rfl
  · rw [tb_modB, ak, decide_eq_true h64, Bool.true_and, Bool.and_eq_true] at hk
    have up : ∀ {v m : Int}, Mem v m (bor v1 v2) → tb m k = true → Mem v m (bor (bor v1 v2) (2 ^ k)) := fun {v m} q r => ⟨q.1.bor (wd_pow h64), fun j hj => by
      rw [tb_or_pow, decide_eq_false (fun e => by rw [e, r] at hj; cases hj), Bool.or_false]; exact q.2 j hj⟩
    refine ⟨_, (mem_common h1 h2).mpr ⟨l1, l2⟩, _, (mem_common h1 h2).mpr ⟨up l1 hk.1, up l2 hk.2⟩, ?_⟩
    refine or_pow_ne (m := band m1 m2) (fun j hj => ?_) (by rw [ak, hk.1, hk.2]; rfl)
    rw [ak, Bool.and_eq_true] at hj
    rw [bk, h1.ap j hj.1, h2.ap j hj.2]; rfl
theorem within_iff (h1 : Tn v1 m1) (h2 : Tn v2 m2) : (bor m1 m2 = m2 ∧ v1 - band v1 m2 = v2) ↔ (common v1 m1 v2 m2).length = (mems v1 m1).length := by
  unfold common
  rw [List.length_filter_eq_length_iff]
  have hin : ∀ x, ((mems v2 m2).any (· == x)) = true ↔ Mem v2 m2 x := fun x => by
    rw [List.any_eq_true]
    refine ⟨fun ⟨y, hy, e⟩ => ?_, fun h => ⟨x, (mem_mems h2).mpr h, by simp⟩⟩
    rw [← beq_iff_eq.mp e]; exact (mem_mems h2).mp hy
  rw [contains_iff h2 h1.wv]
  have bk : ∀ k, tb (bor m1 m2) k = (tb m1 k || tb m2 k) := fun k => tb_bor m1 m2 k
  constructor
  · rintro ⟨a, b⟩ x hx
    have hx := (mem_mems h1).mp hx
    refine (hin x).mpr ⟨hx.1, fun k hk => ?_⟩
    have c : tb m1 k = false := by
      have := bk k
      rw [a, hk] at this
      cases q : tb m1 k with
      | false => rfl
      | true => rw [q] at this; cases this
    rw [hx.2 k c, b.2 k hk]
  · intro h
    have h' : ∀ x, Mem v1 m1 x → Mem v2 m2 x := fun x hx => (hin x).mp (h x ((mem_mems h1).mpr hx))
    refine ⟨Wd.ext (h1.wm.bor h2.wm) h2.wm fun k h64 => ?_, h' v1 (mem_low h1.wv)⟩
    rw [bk]
    cases c1 : tb m1 k with
    | false => simp
    | true =>
      cases c2 : tb m2 k with
      | true => rfl
      | false =>
        exact absurd (((h' _ (mem_low h1.wv)).2 k c2).trans ((h' _ (mem_bit h1.wv h64 c1)).2 k c2).symm) (or_pow_ne h1.ap c1)
end
end Mine

set_option autoImplicit false
namespace Mine
open PySem
set_option maxRecDepth 10000
set_option linter.unusedSimpArgs false

theorem ints_map : ∀ ns : List Int, intsOf (ns.map V.int) = some ns
  | [] => rfl
  | n :: r => by rw [List.map_cons, intsOf, ints_map r]; rfl
theorem ints_is : ∀ {xs : List V} {ns : List Int}, intsOf xs = some ns → xs = ns.map V.int
  | [], ns, h => by simp only [intsOf, Option.some.injEq] at h; subst h; rfl
  | .int i :: r, ns, h => by
    simp only [intsOf, Option.map_eq_some_iff] at h
    obtain ⟨ms, h1, rfl⟩ := h
    rw [ints_is h1]; rfl
  | .none :: _, _, e => by simp [intsOf] at e
  | .bool _ :: _, _, e => by simp [intsOf] at e
  | .list _ :: _, _, e => by simp [intsOf] at e
  | .tup _ :: _, _, e => by simp [intsOf] at e
  | .rng _ _ :: _, _, e => by simp [intsOf] at e
  | .tnum _ _ :: _, _, e => by simp [intsOf] at e
  | .pen :: _, _, e => by simp [intsOf] at e
theorem bools_map : ∀ ns : List Bool, boolsOf (ns.map V.bool) = some ns
  | [] => rfl
  | n :: r => by rw [List.map_cons, boolsOf, bools_map r]; rfl

section
variable {F : Nat → List V → Tree V} {G : Nat → Int}
theorem comp_all {α : Type} (f : V → Tree (Option V)) (g : α → V) (k : α → V) : ∀ (xs : List α), (∀ x ∈ xs, f (g x) = .ret (some (k x))) → compL f (xs.map g) = .ret (xs.map k)
  | [], _ => rfl
  | x :: r, h => by
    rw [List.map_cons, compL, h x (by simp), Tree.bind, comp_all f g k r fun y hy => h y (by simp [hy])]
    rfl
theorem comp_some {α : Type} (f : V → Tree (Option V)) (g : α → V) (k : α → V) (t : α → Bool) : ∀ (xs : List α), (∀ x ∈ xs, f (g x) = .ret (if t x then some (k x) else Option.none)) → compL f (xs.map g) = .ret ((xs.filter t).map k)
  | [], _ => rfl
  | x :: r, h => by
    rw [List.map_cons, compL, h x (by simp), Tree.bind, comp_some f g k t r fun y hy => h y (by simp [hy])]
    cases q : t x with
    | true => rw [if_pos rfl, List.filter_cons_of_pos q]; rfl
    | false => rw [if_neg (by simp), List.filter_cons_of_neg (by simp [q])]; rfl
/-- a comprehension over a list that is at hand -/
theorem ev_comp {α : Type} {n : Nat} {σ : Env} {elt src : X} {tt : Bool} {ts cap gl : List Nat} {s : V} {xs : List α} (g k : α → V) (hb : bound σ cap = true) (hs : ev F G n σ src = .ret s) (hw : walkable s = true) (hi : itemsV s = some (xs.map g))
    (h : ∀ x ∈ xs, ∃ σ', bindT (only σ cap) tt ts (g x) = some σ' ∧ ev F G n σ' elt = .ret (k x)) : ev F G (n + 1) σ (.comp elt tt ts src Option.none cap gl) = .ret (.list (xs.map k)) := by
  rw [ev, hb, guard_true rfl, hs, Tree.bind, hw, hi]
  dsimp only
  rw [comp_all _ g k xs fun x hx => by
    obtain ⟨σ', h1, h2⟩ := h x hx
    rw [itemF, h1]
    dsimp only [testF, Tree.bind]
    rw [h2]; rfl]
  rfl
theorem ev_compI {n : Nat} {σ : Env} {elt src : X} {t : Nat} {cap gl : List Nat} {xs : List Int} (k : Int → V) (hb : bound σ cap = true) (hs : ev F G n σ src = .ret (.list (xs.map .int))) (h : ∀ x ∈ xs, ev F G n (set (only σ cap) t (.int x)) elt = .ret (k x)) :
    ev F G (n + 1) σ (.comp elt false [t] src Option.none cap gl) = .ret (.list (xs.map k)) :=
  ev_comp V.int k hb hs rfl rfl fun x hx => ⟨_, rfl, h x hx⟩
theorem ev_compP {n : Nat} {σ : Env} {elt src : X} {t u : Nat} {cap gl : List Nat} {xs : List (Int × Int)} (k : Int × Int → V) (hb : bound σ cap = true) (hs : ev F G n σ src = .ret (.list (xs.map fun p => .tup [.int p.1, .int p.2]))) (h : ∀ p ∈ xs, ev F G n (set (set (only σ cap) t (.int p.1)) u (.int p.2)) elt = .ret (k p)) :
    ev F G (n + 1) σ (.comp elt true [t, u] src Option.none cap gl) = .ret (.list (xs.map k)) :=
  ev_comp (fun p : Int × Int => V.tup [.int p.1, .int p.2]) k hb hs rfl rfl fun x hx => ⟨_, rfl, h x hx⟩
theorem ev_compR {n : Nat} {σ : Env} {elt src : X} {t w : Nat} {cap gl : List Nat} (k : Nat → V) (hb : bound σ cap = true) (hs : ev F G n σ src = .ret (.rng 0 (w : Int))) (hw : w ≤ 1000) (h : ∀ i, i < w → ev F G n (set (only σ cap) t (.int (i : Int))) elt = .ret (k i)) :
    ev F G (n + 1) σ (.comp elt false [t] src Option.none cap gl) = .ret (.list ((List.range w).map k)) := by
  refine ev_comp (fun i : Nat => V.int (i : Int)) k hb hs ?_ ?_ fun x hx => ⟨_, rfl, h x (List.mem_range.mp hx)⟩
  · simp only [walkable, Bool.and_eq_true, decide_eq_true_eq]
    have : (2 : Int) ^ 62 = 4611686018427387904 := by decide
    omega
  · simp only [itemsV]
    have e : (fun i : Nat => V.int (0 + (i : Int))) = fun i : Nat => V.int (i : Int) := funext fun i => by rw [Int.zero_add]
    rw [show ((w : Int) - 0).toNat = w by omega, e]
/-- with a test -/
theorem ev_compF {n : Nat} {σ : Env} {elt src c : X} {t : Nat} {cap gl : List Nat} {xs : List Int} (k : Int → V) (p : Int → Bool) (hb : bound σ cap = true) (hs : ev F G n σ src = .ret (.list (xs.map .int))) (hc : ∀ x ∈ xs, tv F G n (set (only σ cap) t (.int x)) c = .ret (p x)) (h : ∀ x ∈ xs, ev F G n (set (only σ cap) t (.int x)) elt = .ret (k x)) :
    ev F G (n + 1) σ (.comp elt false [t] src (some c) cap gl) = .ret (.list ((xs.filter p).map k)) := by
  rw [ev, hb, guard_true rfl, hs, Tree.bind]
  dsimp only [walkable, itemsV]
  rw [comp_some _ V.int k p xs fun x hx => by
    rw [itemF, bindT_1]
    dsimp only [testF]
    rw [hc x hx, Tree.bind]
    cases p x with
    | true => rw [h x hx]; rfl
    | false => rfl]
  rfl
theorem flat_all {α : Type} (f : V → Tree (List V)) (g : α → V) (k : α → List V) : ∀ (xs : List α), (∀ x ∈ xs, f (g x) = .ret (k x)) → flatL f (xs.map g) = .ret (xs.flatMap k)
  | [], _ => rfl
  | x :: r, h => by
    rw [List.map_cons, flatL, h x (by simp), Tree.bind, flat_all f g k r fun y hy => h y (by simp [hy])]
    rfl
end

theorem nth_at (xs : List V) (i : Nat) (hi : i < xs.length) (hl : xs.length ≤ 1000000) : nthV xs (i : Int) = .ret xs[i] := by
  unfold nthV
  rw [guard_true (by
    have : (2 : Int) ^ 62 = 4611686018427387904 := by decide
    simp only [Bool.and_eq_true, decide_eq_true_eq]; omega), Int.toNat_natCast, List.getElem?_eq_getElem hi]
  rfl
theorem nth_zero (v : V) (xs : List V) : nthV (v :: xs) 0 = .ret v := by
  unfold nthV
  rw [guard_true (by decide)]; rfl
theorem nth_one (u v : V) (xs : List V) : nthV (u :: v :: xs) 1 = .ret v := by
  unfold nthV
  rw [guard_true (by decide)]; rfl

theorem sim_law_best (us : List V) (pn : Pn) (K : Pn → V → Prop) (h : (dBest us).All pn K) : us.length = 1 ∧ (runB FT GT 30 b_law_best ([31].zip us)).All pn (Weak K) := by
  unfold dBest at h
  split at h
  · rename_i xs
    split at h
    · rename_i n ns hxs
      obtain rfl := ints_is hxs
      simp only [Tree.All, Tree.upN, Tree.knP] at h
      refine ⟨rfl, ?_⟩
      generalize hσ : List.zip _ _ = σ
      have f31 : get σ 31 = some (.list ((n :: ns).map .int)) := by rw [← hσ]; rfl
      refine all_def ?_
      unfold b_law_best
      refine all_seq ?_
      simp only [ex, evL, ev, f31, optT, Tree.bind, nthAny, List.map_cons, nth_zero, assignsL, Tree.All, Tree.upN, Tree.knP, true_and]
      refine all_seq (all_for (s := .list ((n :: ns).map .int)) (items := (n :: ns).map .int) (by simp only [ev, get_set, f31, optT, if_false, Nat.reduceEqDiff]) rfl rfl (fun rest f q => q = pn ∧ ∃ a o ms, get f.σ 2 = some (.int a) ∧ get f.σ 40 = some (.int o) ∧ rest = ms.map .int ∧ ms.foldl band a = andAll (n :: ns) ∧ ms.foldl bor o = orAll (n :: ns))
        ⟨rfl, n, n, n :: ns, by repeat (first | exact get_eq | refine get_ne rfl ?_), by repeat (first | exact get_eq | refine get_ne rfl ?_), rfl, rfl, rfl⟩ (fun v r f q hf => ?_) (fun f q hf => ⟨rfl, ?_⟩))
      · obtain ⟨rfl, a, o, ms, f2, f40, e, e1, e2⟩ := hf
        cases ms with
        | nil => cases e
        | cons m ms =>
          rw [List.map_cons] at e
          obtain ⟨rfl, rfl⟩ := List.cons.inj e
          refine all_seq ?_
          simp only [ex, evL, ev, get_set, f2, f40, optT, Tree.bind, ov_add, ov_app, ov_sub, ov_mul, ov_div, ov_mod, ov_pow, ov_shl, ov_shr, ov_and, ov_or, ov_xor, assignsL, Tree.All, Tree.upN, Tree.knP, if_true, if_false, Nat.reduceEqDiff, true_and]
          exact all_nil ⟨rfl, rfl, band a m, bor o m, ms, by repeat (first | exact get_eq | refine get_ne rfl ?_), by repeat (first | exact get_eq | refine get_ne rfl ?_), rfl, e1, e2⟩
      · obtain ⟨rfl, a, o, ms, f2, f40, e, e1, e2⟩ := hf
        cases ms with
        | cons m ms => cases e
        | nil =>
          rw [List.foldl_nil] at e1 e2
          subst e1 e2
          refine all_end ?_
          simp only [ex, evL, ev, f2, f40, optT, Tree.bind, ov_add, ov_app, ov_sub, ov_mul, ov_div, ov_mod, ov_pow, ov_shl, ov_shr, ov_and, ov_or, ov_xor, Tree.All, Tree.upN, Tree.knP, Option.isSome, true_and]
          exact .inl h
    · simp only [Tree.All, Tree.upN, Tree.knP] at h
  · simp only [Tree.All, Tree.upN, Tree.knP] at h

theorem turned_sum (x : Int) {w : Nat} (h : w = 1 ∨ w = 2 ∨ w = 4 ∨ w = 8) : ((List.range w).map fun i => x / 256 ^ i % 256 * 256 ^ (w - 1 - i)).sum = turn x w := by
  rcases h with rfl | rfl | rfl | rfl
  · simp [List.range_succ, turn]
  · simp [List.range_succ, turn]
  · simp [List.range_succ, turn]
    generalize x % 256 = a0, x / 256 % 256 = a1, x / 65536 % 256 = a2, x / 16777216 % 256 = a3
    omega
  · simp [List.range_succ, turn]
    generalize x % 256 = a0, x / 256 % 256 = a1, x / 65536 % 256 = a2, x / 16777216 % 256 = a3, x / 4294967296 % 256 = a4, x / 1099511627776 % 256 = a5, x / 281474976710656 % 256 = a6, x / 72057594037927936 % 256 = a7
    omega
theorem sim_law_turned (us : List V) (pn : Pn) (K : Pn → V → Prop) (h : (dTurned us).All pn K) : us.length = 2 ∧ (runB FT GT 30 b_law_turned ([1, 9].zip us)).All pn (Weak K) := by
  unfold dTurned at h
  split at h
  · rename_i x w
    obtain ⟨hg, h⟩ := guard_all h
    simp only [Tree.All, Tree.upN, Tree.knP] at h
    refine ⟨rfl, ?_⟩
    obtain ⟨k, rfl, hk⟩ : ∃ k : Nat, w = (k : Int) ∧ (k = 1 ∨ k = 2 ∨ k = 4 ∨ k = 8) := ⟨w.toNat, by rcases wid_cases hg with rfl | rfl | rfl | rfl <;> rfl, by rcases wid_cases hg with rfl | rfl | rfl | rfl <;> decide⟩
    generalize hσ : List.zip _ _ = σ
    have f1 : get σ 1 = some (.int x) := by rw [← hσ]; rfl
    have f9 : get σ 9 = some (.int k) := by rw [← hσ]; rfl
    refine all_def ?_
    unfold b_law_turned
    refine all_end ?_
    have hc := ev_compR (F := FT) (G := GT) (n := 26) (σ := σ) (elt := .bin .Mult (.bin .Mod (.bin .FloorDiv (.var 1) (.bin .Pow (.int 256) (.var 22))) (.int 256)) (.bin .Pow (.int 256) (.bin .Sub (.bin .Sub (.var 9) (.int 1)) (.var 22)))) (src := .call 7 [(.var 9)]) (t := 22) (w := k) (cap := [1, 9]) (gl := [])
      (fun i => V.int (x / 256 ^ i % 256 * 256 ^ (k - 1 - i))) (by simp only [bound, List.all_cons, List.all_nil, f1, f9]; rfl) (by simp only [ev, evL, f9, optT, Tree.bind, ft_0, ft_1, ft_2, ft_3, ft_4, ft_5, ft_6, ft_7, ft_8, ft_9, ft_12, ft_13, ft_14, ft_15, ft_16, ft_17, ft_18, ft_19, ft_20, ft_21, ft_22, ft_23, ft_24, ft_25, ft_26, ft_27, ft_28, ft_29, ft_30, ft_31, ft_32, ft_33, ft_34, ft_35, ft_36, ft_37, ft_38, ft_40, ft_41, ft_42, ft_43, ft_44, ft_45, ft_46, ft_47, ft_48, ft_49, ft_50, ft_52, ft_53, ft_54, ft_55, ft_56, ft_57, ft_58, ft_59, ft_60, ft_61, ft_62, ft_63, dRange]) (by omega) fun i hi => by
        have hpp : (0 : Int) < 256 ^ i := Int.pow_pos (by decide)
        have hp : ((256 : Int) ^ i != 0) = true := by simp only [bne_iff_ne, ne_eq]; omega
        have hp2 : (0 : Int) ≤ 256 ^ i := Int.le_of_lt (Int.pow_pos (by decide))
        have hs : short ((256 : Int) ^ i) = true := (show ∀ i : Fin 8, short ((256 : Int) ^ i.val) = true by decide +kernel) ⟨i, Nat.lt_of_lt_of_le hi (by rcases hk with rfl | rfl | rfl | rfl <;> decide)⟩
        have gs : ((256 : Int) ^ i != 0 && short ((256 : Int) ^ i)) = true := by rw [hp, hs]; rfl
        have g1 : (decide ((0 : Int) ≤ (i : Int)) && decide ((i : Int) ≤ 1000000) && small 256) = true := by rw [show small 256 = true by decide]; simp; omega
        have g2 : (decide ((0 : Int) ≤ (k : Int) - 1 - (i : Int)) && decide ((k : Int) - 1 - (i : Int) ≤ 1000000) && small 256) = true := by rw [show small 256 = true by decide]; simp; omega
        have e2 : ((k : Int) - 1 - (i : Int)).toNat = k - 1 - i := by omega
        have hm := Int.emod_nonneg (x / 256 ^ i) (show (256 : Int) ≠ 0 by decide)
        have hm2 := Int.emod_lt_of_pos (x / 256 ^ i) (show (0 : Int) < 256 by decide)
        have g3 : (small (x / 256 ^ i % 256) || small (256 ^ (k - 1 - i))) = true := by rw [small_of (wd_small hm hm2)]; rfl
        have e3 : ((x.fdiv (256 ^ i)).fmod 256) = x / 256 ^ i % 256 := by rw [Int.fdiv_eq_ediv_of_nonneg _ hp2, Int.fmod_eq_emod_of_nonneg _ (by decide)]
        simp only [only, f1, f9, ev, get_set, get, cond_true, cond_false, Nat.beq, optT, Tree.bind, ov_add, ov_app, ov_sub, ov_mul, ov_div, ov_mod, ov_pow, ov_shl, ov_shr, ov_and, ov_or, ov_xor, Int.toNat_natCast, guard_true g1, guard_true gs, guard_true (show ((256 : Int) != 0) = true by decide), guard_true g2, e2, e3, guard_true g3, if_true, if_false, Nat.reduceEqDiff]
    rw [ex, ev, evL]
    dsimp only
    rw [hc]
    simp only [evL, Tree.bind, ft_0, ft_1, ft_2, ft_3, ft_4, ft_5, ft_6, ft_7, ft_8, ft_9, ft_12, ft_13, ft_14, ft_15, ft_16, ft_17, ft_18, ft_19, ft_20, ft_21, ft_22, ft_23, ft_24, ft_25, ft_26, ft_27, ft_28, ft_29, ft_30, ft_31, ft_32, ft_33, ft_34, ft_35, ft_36, ft_37, ft_38, ft_40, ft_41, ft_42, ft_43, ft_44, ft_45, ft_46, ft_47, ft_48, ft_49, ft_50, ft_52, ft_53, ft_54, ft_55, ft_56, ft_57, ft_58, ft_59, ft_60, ft_61, ft_62, ft_63, dSum]
    rw [show ((List.range k).map fun i => V.int (x / 256 ^ i % 256 * 256 ^ (k - 1 - i))) = ((List.range k).map fun i => x / 256 ^ i % 256 * 256 ^ (k - 1 - i)).map V.int by rw [List.map_map]; rfl, ints_map]
    dsimp only
    rw [turned_sum x hk]
    exact ⟨rfl, .inl h⟩
  · simp only [Tree.All, Tree.upN, Tree.knP] at h
end Mine

set_option autoImplicit false
namespace Mine
open PySem
set_option maxRecDepth 10000
set_option linter.unusedSimpArgs false

section
variable {F : Nat → List V → Tree V} {G : Nat → Int}
theorem st_assign {n x : Nat} {f : Fs} {e : X} {v : V} {r : List S} {pn : Pn} {K : Pn → Fs × Option V → Prop} (h : ev F G n f.σ e = .ret v) (k : (exB F G (n + 1) ⟨set f.σ x v, f.own⟩ r).All pn K) : (exB F G (n + 2) f (.assign x e :: r)).All pn K :=
  all_seq (by rw [ex, h]; exact ⟨rfl, k⟩)
theorem st_assignD {n x : Nat} {f : Fs} {e : X} {r : List S} {pn : Pn} {K : Pn → Fs × Option V → Prop} (h : (ev F G n f.σ e).All pn fun q v => (exB F G (n + 1) ⟨set f.σ x v, f.own⟩ r).All q K) : (exB F G (n + 2) f (.assign x e :: r)).All pn K :=
  all_seq (by rw [ex]; exact Tree.all_bind_of _ _ (Tree.all_mono _ _ h fun _ _ k => ⟨rfl, k⟩))
theorem st_assignT {n : Nat} {xs : List Nat} {es : List X} {f : Fs} {vs : List V} {σ : Env} {r : List S} {pn : Pn} {K : Pn → Fs × Option V → Prop} (h : evL (ev F G n f.σ) es = .ret vs) (ha : assignsL f.σ xs vs = some σ) (k : (exB F G (n + 1) ⟨σ, f.own⟩ r).All pn K) : (exB F G (n + 2) f (.assignT xs es :: r)).All pn K :=
  all_seq (by rw [ex, h, Tree.bind, ha]; exact ⟨rfl, k⟩)
theorem st_ret {n : Nat} {f : Fs} {e : X} {v : V} {r : List S} {pn : Pn} {K : Pn → Fs × Option V → Prop} (h : ev F G n f.σ e = .ret v) (k : K pn (f, some v)) : (exB F G (n + 2) f (.ret e :: r)).All pn K :=
  all_end (by rw [ex, h]; exact ⟨rfl, k⟩)
theorem st_if {n : Nat} {f : Fs} {c : X} {t r : List S} {pn : Pn} {K : Pn → Fs × Option V → Prop} (h : tv F G n f.σ c = .ret false) (k : (exB F G (n + 1) f r).All pn K) : (exB F G (n + 2) f (.ifS c t [] :: r)).All pn K := by
  cases n with
  | zero => rw [tv] at h; cases h
  | succ n => exact all_seq (by rw [ex, h]; exact ⟨rfl, k⟩)
theorem ev_draw {n k : Nat} {σ : Env} {m : Int} {K : Pn → V → Prop} (h : get σ 29 = some .pen) (hm : (decide (0 < m) && decide (m ≤ 65536)) = true) (hk : k < 1000) (H : ∀ d, 0 ≤ d → d < m → K (.upto (k + 1)) (.int d)) : (ev FT GT (n + 2) σ (.call 52 [(.var 29), (.int m)])).All (.upto k) K := by
  have e : ev FT GT (n + 2) σ (.call 52 [(.var 29), (.int m)]) = .draw m fun d => .ret (.int d) := by
    simp only [ev, evL, h, optT, Tree.bind, ft_0, ft_1, ft_2, ft_3, ft_4, ft_5, ft_6, ft_7, ft_8, ft_9, ft_12, ft_13, ft_14, ft_15, ft_16, ft_17, ft_18, ft_19, ft_20, ft_21, ft_22, ft_23, ft_24, ft_25, ft_26, ft_27, ft_28, ft_29, ft_30, ft_31, ft_32, ft_33, ft_34, ft_35, ft_36, ft_37, ft_38, ft_40, ft_41, ft_42, ft_43, ft_44, ft_45, ft_46, ft_47, ft_48, ft_49, ft_50, ft_52, ft_53, ft_54, ft_55, ft_56, ft_57, ft_58, ft_59, ft_60, ft_61, ft_62, ft_63, dDraw, guard_true hm]
  rw [e]
  simp only [Bool.and_eq_true, decide_eq_true_eq] at hm
  exact ⟨hm.1, hk, H⟩
end
noncomputable def bitsTo (i : Nat) (m : Int) : List Nat := (List.range i).filter fun k => tb m k
theorem bitsTo_succ (i : Nat) (m : Int) : bitsTo (i + 1) m = if tb m i then bitsTo i m ++ [i] else bitsTo i m := by
  unfold bitsTo
  rw [List.range_succ, List.filter_append]
  cases q : tb m i with
  | true => rw [List.filter_cons_of_pos q]; rfl
  | false => rw [List.filter_cons_of_neg (by simp [q])]; simp
theorem bitsTo_len {i : Nat} {m : Int} (h : i ≤ 64) : (bitsTo i m).length ≤ (bitsOf m).length := by
  rw [bits_is]
  unfold bitsTo
  refine (List.Sublist.filter _ ?_).length_le
  rw [List.range_eq_range', List.range_eq_range']
  exact List.range'_sublist_right.mpr h
theorem half_step (m : Int) (i : Nat) : m / 2 ^ i / 2 = m / 2 ^ (i + 1) := by
  rw [Int.pow_succ, Int.ediv_ediv_of_nonneg (Int.le_of_lt (pow_pos2 i))]
theorem sim_law_members (us : List V) (pn : Pn) (K : Pn → V → Prop) (h : (dMembers us).All pn K) : us.length = 1 ∧ (runB FT GT 30 b_law_members ([39].zip us)).All pn (Weak K) := by
  unfold dMembers at h
  split at h
  · rename_i v m
    obtain ⟨hw, h⟩ := need_all h
    simp only [Tree.All, Tree.upN, Tree.knP] at h
    refine ⟨rfl, ?_⟩
    generalize hσ : List.zip _ _ = σ
    have f39 : get σ 39 = some (.tup [.int v, .int m]) := by rw [← hσ]; rfl
    refine all_def ?_
    unfold b_law_members
    refine all_seq ?_
    simp only [ex, evL, ev, f39, optT, Tree.bind, nthAny, nth_zero, nth_one, assignsL, Tree.All, Tree.upN, Tree.knP, true_and]
    refine all_seq (all_range_for (w := 64) (by simp only [ev, evL, Tree.bind, ft_0, ft_1, ft_2, ft_3, ft_4, ft_5, ft_6, ft_7, ft_8, ft_9, ft_12, ft_13, ft_14, ft_15, ft_16, ft_17, ft_18, ft_19, ft_20, ft_21, ft_22, ft_23, ft_24, ft_25, ft_26, ft_27, ft_28, ft_29, ft_30, ft_31, ft_32, ft_33, ft_34, ft_35, ft_36, ft_37, ft_38, ft_40, ft_41, ft_42, ft_43, ft_44, ft_45, ft_46, ft_47, ft_48, ft_49, ft_50, ft_52, ft_53, ft_54, ft_55, ft_56, ft_57, ft_58, ft_59, ft_60, ft_61, ft_62, ft_63, dRange]; rfl) (by omega) (fun i f q => q = pn ∧ get f.σ 10 = some (.list ((memsOf v (bitsTo i m).reverse).map .int)) ∧ get f.σ 11 = some (.int (m / 2 ^ i)))
      ⟨rfl, by simp [get_set]; rfl, by simp [get_set]⟩ (fun i f q hi hf => ?_) (fun f q hf => ⟨rfl, ?_⟩))
    · obtain ⟨rfl, f10, f11⟩ := hf
      have hl := bitsTo_len (m := m) (show i ≤ 64 by omega)
      have hfew := hw.few
      have hlen : (memsOf v (bitsTo i m).reverse).length ≤ 8 := by
        rw [memsOf_len, List.length_reverse]
        have := Nat.pow_le_pow_right (show 0 < 2 by decide) (show (bitsTo i m).length ≤ 3 by omega)
        omega
      have g2 : ((2 : Int) != 0) = true := by decide
      have g3 : ((2 : Int) != 0 && short 2) = true := by decide +kernel
      have em : (m / 2 ^ i).fmod 2 = m / 2 ^ i % 2 := Int.fmod_eq_emod_of_nonneg _ (by decide)
      have ed : (m / 2 ^ i).fdiv 2 = m / 2 ^ (i + 1) := by rw [Int.fdiv_eq_ediv_of_nonneg _ (by decide), half_step]
      have ht : ∀ (σ : Env), get σ 11 = some (.int (m / 2 ^ i)) → tv FT GT 25 σ (.cmp .Eq (.bin .Mod (.var 11) (.int 2)) (.int 1)) = .ret (tb m i) := fun σ h11 => by
        simp only [tv, ev, h11, optT, Tree.bind, ov_add, ov_app, ov_sub, ov_mul, ov_div, ov_mod, ov_pow, ov_shl, ov_shr, ov_and, ov_or, ov_xor, guard_true g2, em]
        simp only [cv_eq, eqv_int, optT]
        congr 1
      have rest : ∀ f : Fs, get f.σ 10 = some (.list ((memsOf v (bitsTo (i + 1) m).reverse).map .int)) → get f.σ 11 = some (.int (m / 2 ^ i)) → (exB FT GT 26 f [.assign 11 (.bin .FloorDiv (.var 11) (.int 2))]).All q fun q' o => o.2 = Option.none ∧ q' = q ∧ get o.1.σ 10 = some (.list ((memsOf v (bitsTo (i + 1) m).reverse).map .int)) ∧ get o.1.σ 11 = some (.int (m / 2 ^ (i + 1))) := fun f h10 h11 => by
        refine all_seq ?_
        simp only [ex, ev, h11, optT, Tree.bind, ov_add, ov_app, ov_sub, ov_mul, ov_div, ov_mod, ov_pow, ov_shl, ov_shr, ov_and, ov_or, ov_xor, guard_true g3, ed, Tree.All, Tree.upN, Tree.knP, true_and]
        exact all_nil ⟨rfl, rfl, by simp [get_set, h10], by repeat (first | exact get_eq | refine get_ne rfl ?_)⟩
      have hset : get (set f.σ 36 (.int (i : Int))) 11 = some (.int (m / 2 ^ i)) := by repeat (first | exact get_eq | exact f11 | refine get_ne rfl ?_)
      refine all_seq ?_
      rw [ex]
      refine Tree.all_bind_of _ _ ?_
      dsimp only
      rw [ht _ hset]
      have eB := bitsTo_succ i m
      cases hb : tb m i with
      | false =>
        rw [hb, if_neg (by simp)] at eB
        exact ⟨rfl, rest ⟨set f.σ 36 (.int (i : Int)), f.own⟩ (by rw [eB, get_set, if_neg (by decide), f10]) hset⟩
      | true =>
        rw [hb, if_pos rfl] at eB
        refine all_seq ?_
        have gp : (decide ((0 : Int) ≤ (i : Int)) && decide ((i : Int) ≤ 1000000) && small 2) = true := shl_ok (by omega) (by omega) (by decide)
        have hc := ev_compI (F := FT) (G := GT) (n := 21) (σ := set f.σ 36 (.int (i : Int))) (elt := .bin .Add (.var 38) (.bin .Pow (.int 2) (.var 36))) (src := .var 10) (t := 38) (cap := [36]) (gl := []) (xs := memsOf v (bitsTo i m).reverse)
          (fun x => .int (x + 2 ^ i)) (by simp only [bound, List.all_cons, List.all_nil, get_set, if_true]; rfl) (by simp only [ev, get_set, f10, optT, if_false, Nat.reduceEqDiff]) fun x hx => by
            simp only [only, get_set, if_true, ev, get, Nat.beq, cond_true, cond_false, optT, Tree.bind, ov_add, ov_app, ov_sub, ov_mul, ov_div, ov_mod, ov_pow, ov_shl, ov_shr, ov_and, ov_or, ov_xor, guard_true gp, Int.toNat_natCast, if_false, Nat.reduceEqDiff]
        have gl : decide ((List.map V.int (memsOf v (bitsTo i m).reverse)).length + (List.map (fun x => V.int (x + 2 ^ i)) (memsOf v (bitsTo i m).reverse)).length ≤ 1000000) = true := by
          rw [List.length_map, List.length_map]; simp; omega
        rw [ex, ev]
        dsimp only
        rw [hc]
        simp only [ev, get_set, f10, optT, Tree.bind, ov_add, ov_app, ov_sub, ov_mul, ov_div, ov_mod, ov_pow, ov_shl, ov_shr, ov_and, ov_or, ov_xor, guard_true gl, if_false, Nat.reduceEqDiff, Tree.All, Tree.upN, Tree.knP, true_and]
        refine all_nil ⟨rfl, rest _ ?_ (by repeat (first | exact get_eq | exact f11 | refine get_ne rfl ?_))⟩
        rw [eB, List.reverse_append, List.reverse_singleton, List.singleton_append, memsOf]
        simp only [get_set, if_true, List.map_append, List.map_map, Function.comp_def]
    · obtain ⟨rfl, f10, f11⟩ := hf
      exact st_ret (by rw [ev, f10]; rfl) (.inl h)
  · simp only [Tree.All, Tree.upN, Tree.knP] at h

section
variable {F : Nat → List V → Tree V} {G : Nat → Int}
/-- a for loop over range(e), where e may draw -/
theorem all_range_draw {n x : Nat} {f : Fs} {src : X} {b : List S} {pn : Pn} {K : Pn → Fs × Option V → Prop} (Inv : Nat → Nat → Fs → Pn → Prop) (hsrc : (ev F G n f.σ src).All pn fun q s => ∃ w : Nat, s = .rng 0 (w : Int) ∧ w ≤ 1000 ∧ Inv w 0 f q)
    (turn : ∀ w i f q, i < w → Inv w i f q → (exB F G n ⟨set f.σ x (.int (i : Int)), f.own⟩ b).All q fun q o => o.2 = Option.none ∧ Inv w (i + 1) o.1 q) (fin : ∀ w f q, Inv w w f q → K q (f, Option.none)) : (ex F G (n + 1) f (.forS false [x] src b)).All pn K := by
  rw [ex]
  refine Tree.all_bind_of _ _ (Tree.all_mono _ _ hsrc fun q s hs => ?_)
  obtain ⟨w, e, hw, h0⟩ := hs
  subst e
  have hwalk : walkable (.rng 0 (w : Int)) = true := by
    simp only [walkable, Bool.and_eq_true, decide_eq_true_eq]
    have : (2 : Int) ^ 62 = 4611686018427387904 := by decide
    omega
  have hitems : itemsV (.rng 0 (w : Int)) = some ((List.range' 0 w).map fun i : Nat => V.int (i : Int)) := by
    simp only [itemsV]
    have e : (fun i : Nat => V.int (0 + (i : Int))) = fun i : Nat => V.int (i : Int) := funext fun i => by rw [Int.zero_add]
    rw [show ((w : Int) - 0).toNat = w by omega, List.range_eq_range', e]
  rw [hwalk, hitems]
  refine all_forL (fun items f pn => ∃ i, i ≤ w ∧ items = (List.range' i (w - i)).map (fun i : Nat => V.int (i : Int)) ∧ Inv w i f pn) (fun v r f pn h => ?_) (fun f q h => ?_) _ _ _ ⟨0, Nat.zero_le _, by simp, h0⟩
  · obtain ⟨i, hi, e, h⟩ := h
    have hlt : i < w := by
      refine Decidable.byContradiction fun hn => ?_
      have : w - i = 0 := by omega
      rw [this] at e; simp at e
    have e2 : w - i = (w - (i + 1)) + 1 := by omega
    rw [e2, List.range'_succ, List.map_cons] at e
    obtain ⟨rfl, rfl⟩ := List.cons.inj e
    exact Tree.all_mono _ _ (turn w i f pn hlt h) fun q o ho => ⟨ho.1, i + 1, hlt, rfl, ho.2⟩
  · obtain ⟨i, hi, e, h⟩ := h
    have : i = w := by
      refine Decidable.byContradiction fun hn => ?_
      have e2 : w - i = (w - (i + 1)) + 1 := by omega
      rw [e2, List.range'_succ] at e; simp at e
    subst this
    exact fin i f q h
end
theorem filter_more (p : Nat) (a : Nat → Bool) : ∀ {l : List Nat}, l.Nodup → (l.filter fun k => a k || decide (k = p)).length ≤ (l.filter a).length + 1
  | [], _ => by simp
  | k :: r, h => by
    obtain ⟨h1, h2⟩ := List.nodup_cons.mp h
    have ih := filter_more p a h2
    by_cases e : k = p
    · subst e
      have same : (r.filter fun j => a j || decide (j = k)) = r.filter a := List.filter_congr fun j hj => by
        have : j ≠ k := fun q => h1 (q ▸ hj)
        simp [this]
      rw [List.filter_cons_of_pos (by simp), same, List.length_cons]
      have := (List.Sublist.filter a (List.sublist_cons_self k r)).length_le
      omega
    · cases q : a k with
      | true => rw [List.filter_cons_of_pos (by simp [q]), List.filter_cons_of_pos q, List.length_cons, List.length_cons]; omega
      | false => rw [List.filter_cons_of_neg (by simp [q, e]), List.filter_cons_of_neg (by simp [q])]; exact ih
theorem bits_more (m : Int) (p : Nat) : (bitsOf (bor m (2 ^ p))).length ≤ (bitsOf m).length + 1 := by
  rw [bits_is, bits_is]
  have := filter_more p (fun k => tb m k) (List.nodup_range (n := 64))
  refine Nat.le_trans (Nat.le_of_eq ?_) this
  congr 1
  exact List.filter_congr fun k _ => tb_or_pow m p k
theorem tb_rest {m : Int} (hm : Wd 64 m) (k : Nat) : tb (M64 - m) k = (decide (k < 64) && !tb m k) := by
  have hs : Sub m M64 := fun j hj => by
    rw [tb_M64]
    by_cases h : j < 64
    · simpa using h
    · rw [hm.high (by omega)] at hj; cases hj
  rw [tb_subm hs, tb_M64]
theorem w3_of {w m : Int} (hw : Wd 64 w) (hm : Wd 64 m) (hf : (bitsOf m).length ≤ 3) : W3 (band w (B64 - 1 - m)) m := by
  have hv : Wd 64 (band w (B64 - 1 - m)) := hw.band
  refine ⟨word_of hv, word_of hm, of_apart hv fun k hk => ?_, hf⟩
  show tb (Builtin.bitAnd w (M64 - m)) k = false
  rw [tb_band, tb_rest hm, hk]; simp
theorem sim_law_pair (us : List V) (pn : Pn) (K : Pn → V → Prop) (h : (dPair us).All pn K) : us.length = 2 ∧ (runB FT GT 30 b_law_pair ([29, 37].zip us)).All pn (Weak K) := by
  unfold dPair at h
  split at h
  · rename_i near
    obtain ⟨hnear, h⟩ := need_all h
    obtain ⟨n, rfl, hn, hk⟩ := any_all h
    have hk : ∀ v m, W3 v m → K (.upto (n + 20)) (.tup [.int v, .int m]) := fun v m hw => by
      have := hk (.tup [.int v, .int m]) ⟨v, m, rfl, hw⟩
      simpa only [Tree.All, Tree.upN, Tree.knP] using this
    refine ⟨rfl, ?_⟩
    generalize hσ : List.zip _ _ = σ
    have f29 : get σ 29 = some .pen := by rw [← hσ]; rfl
    have f37 : get σ 37 = some (.int near) := by rw [← hσ]; rfl
    refine all_def ?_
    unfold b_law_pair
    refine all_seq ?_
    rw [ex, evL, evL]
    refine Tree.all_bind_of _ _ (Tree.all_bind_of _ _ ?_)
    rw [ev]
    refine Tree.all_bind_of _ _ (Tree.all_bind_of _ _ (ev_draw f29 rfl (by omega) fun b b0 b1 => ?_))
    refine ⟨rfl, ?_⟩
    dsimp only
    refine st_assignD ?_
    rw [ev]
    refine Tree.all_bind_of _ _ (ev_draw (by repeat (first | exact get_eq | exact f29 | refine get_ne rfl ?_)) rfl (by omega) fun r r0 r1 => ?_)
    have hr0 : cmpV .Eq (.int r) (.int 0) = .ret (r == 0) := rfl
    rw [ev]
    dsimp only [Tree.bind]
    rw [hr0]
    generalize hr : (r == 0) = rb
    show (exB FT GT 28 ⟨set (set (set σ 13 (.int 0)) 35 (.int b)) 34 (.bool rb), Option.none⟩ _).All (.upto (n + 1 + 1)) _
    refine all_seq (all_range_draw (fun w i f q => w ≤ 3 ∧ ∃ k m, q = .upto k ∧ k ≤ n + 3 + i ∧ get f.σ 29 = some .pen ∧ get f.σ 37 = some (.int near) ∧ get f.σ 35 = some (.int b) ∧ get f.σ 34 = some (.bool rb) ∧ get f.σ 13 = some (.int m) ∧ Wd 64 m ∧ (bitsOf m).length ≤ i) ?_ (fun w i f q hi hf => ?_) (fun w f q hf => ⟨rfl, ?_⟩))
    · rw [ev, evL, evL]
      refine Tree.all_bind_of _ _ (Tree.all_bind_of _ _ (ev_draw (by repeat (first | exact get_eq | exact f29 | refine get_ne rfl ?_)) rfl (by omega) fun t t0 t1 => ?_))
      refine ⟨t.toNat, by rw [Int.toNat_of_nonneg t0], by omega, by omega, n + 1 + 1 + 1, 0, rfl, by omega, by repeat (first | exact get_eq | exact f29 | refine get_ne rfl ?_), by repeat (first | exact get_eq | exact f37 | refine get_ne rfl ?_), by repeat (first | exact get_eq | refine get_ne rfl ?_), by repeat (first | exact get_eq | refine get_ne rfl ?_), by repeat (first | exact get_eq | refine get_ne rfl ?_), ⟨by decide, by decide⟩, by rw [bits_zero]; exact Nat.le_refl 0⟩
    · obtain ⟨w3, k, m, rfl, hkn, f29, f37, f35, f34, f13, hm, hl⟩ := hf
      have fin : ∀ (f' : Fs) (k' : Nat) (p : Int), 0 ≤ p → p < 64 → k' ≤ k + 1 → get f'.σ 29 = some .pen → get f'.σ 37 = some (.int near) → get f'.σ 35 = some (.int b) → get f'.σ 34 = some (.bool rb) → get f'.σ 13 = some (.int m) → get f'.σ 36 = some (.int p) →
          (exB FT GT 25 f' [.assign 13 (.bin .BitOr (.var 13) (.bin .LShift (.int 1) (.var 36)))]).All (.upto k') fun q o => o.2 = Option.none ∧ (w ≤ 3 ∧ ∃ k m, q = .upto k ∧ k ≤ n + 3 + (i + 1) ∧ get o.1.σ 29 = some .pen ∧ get o.1.σ 37 = some (.int near) ∧ get o.1.σ 35 = some (.int b) ∧ get o.1.σ 34 = some (.bool rb) ∧ get o.1.σ 13 = some (.int m) ∧ Wd 64 m ∧ (bitsOf m).length ≤ i + 1) := fun f' k' p p0 p1 hk' g29 g37 g35 g34 g13 g36 => by
        have he : ev FT GT 23 f'.σ (.bin .BitOr (.var 13) (.bin .LShift (.int 1) (.var 36))) = .ret (.int (bor m (2 ^ p.toNat))) := by
          simp only [ev, g13, g36, optT, Tree.bind, ov_add, ov_app, ov_sub, ov_mul, ov_div, ov_mod, ov_pow, ov_shl, ov_shr, ov_and, ov_or, ov_xor, guard_true (shl_ok p0 (show p ≤ 64 by omega) (show small 1 = true by decide)), one_shl]
        have hb := bits_more m p.toNat
        exact st_assign he (all_nil ⟨rfl, w3, k', bor m (2 ^ p.toNat), rfl, by omega, by simp [get_set, g29], by simp [get_set, g37], by simp [get_set, g35], by simp [get_set, g34], by repeat (first | exact get_eq | refine get_ne rfl ?_), hm.bor (wd_pow (by omega)), by omega⟩)
      refine st_assignD ?_
      rw [ev]
      have hc : tv FT GT 23 (set f.σ 33 (.int (i : Int))) (.var 34) = .ret rb := by simp only [tv, ev, get_set, f34, optT, Tree.bind, truthyV, if_false, Nat.reduceEqDiff]
      dsimp only
      rw [hc]
      cases rb with
      | true =>
        have g : ((64 : Int) != 0) = true := by decide
        have e : (b + (i : Int)).fmod 64 = (b + (i : Int)) % 64 := Int.fmod_eq_emod_of_nonneg _ (by decide)
        have he : ev FT GT 23 (set f.σ 33 (.int (i : Int))) (.bin .Mod (.bin .Add (.var 35) (.var 33)) (.int 64)) = .ret (.int ((b + (i : Int)) % 64)) := by
          simp only [ev, get_set, f35, optT, Tree.bind, ov_add, ov_app, ov_sub, ov_mul, ov_div, ov_mod, ov_pow, ov_shl, ov_shr, ov_and, ov_or, ov_xor, guard_true g, if_true, if_false, Nat.reduceEqDiff, e]
        show (ev FT GT 23 (set f.σ 33 (.int (i : Int))) (.bin .Mod (.bin .Add (.var 35) (.var 33)) (.int 64))).All (.upto k) _
        rw [he]
        exact fin ⟨set (set f.σ 33 (.int (i : Int))) 36 (.int ((b + (i : Int)) % 64)), f.own⟩ k _ (Int.emod_nonneg _ (by decide)) (Int.emod_lt_of_pos _ (by decide)) (by omega) (by repeat (first | exact get_eq | exact f29 | refine get_ne rfl ?_)) (by repeat (first | exact get_eq | exact f37 | refine get_ne rfl ?_)) (by repeat (first | exact get_eq | exact f35 | refine get_ne rfl ?_)) (by repeat (first | exact get_eq | exact f34 | refine get_ne rfl ?_)) (by repeat (first | exact get_eq | exact f13 | refine get_ne rfl ?_)) (get_eq)
      | false =>
        refine ev_draw (by repeat (first | exact get_eq | exact f29 | refine get_ne rfl ?_)) rfl (by omega) fun p p0 p1 => ?_
        exact fin ⟨set (set f.σ 33 (.int (i : Int))) 36 (.int p), f.own⟩ (k + 1) p p0 p1 (by omega) (by repeat (first | exact get_eq | exact f29 | refine get_ne rfl ?_)) (by repeat (first | exact get_eq | exact f37 | refine get_ne rfl ?_)) (by repeat (first | exact get_eq | exact f35 | refine get_ne rfl ?_)) (by repeat (first | exact get_eq | exact f34 | refine get_ne rfl ?_)) (by repeat (first | exact get_eq | exact f13 | refine get_ne rfl ?_)) (get_eq)
    · obtain ⟨w3, k, m, rfl, hkn, f29, f37, f35, f34, f13, hm, hl⟩ := hf
      have fin : ∀ (f' : Fs) (k' : Nat) (x : Int), Wd 64 x → k' ≤ n + 20 → get f'.σ 13 = some (.int m) → get f'.σ 1 = some (.int x) →
          (exB FT GT 26 f' [.ret (.tup [(.bin .BitAnd (.var 1) (.bin .Sub (.bin .Sub (.call 49 []) (.int 1)) (.var 13))), (.var 13)])]).All (.upto k') fun q o => Weak K q (o.2.getD .none) := fun f' k' x hx hk' g13 g1 => by
        have he : ev FT GT 24 f'.σ (.tup [(.bin .BitAnd (.var 1) (.bin .Sub (.bin .Sub (.call 49 []) (.int 1)) (.var 13))), (.var 13)]) = .ret (.tup [.int (band x (B64 - 1 - m)), .int m]) := by
          simp only [ev, evL, g13, g1, optT, Tree.bind, ft_0, ft_1, ft_2, ft_3, ft_4, ft_5, ft_6, ft_7, ft_8, ft_9, ft_12, ft_13, ft_14, ft_15, ft_16, ft_17, ft_18, ft_19, ft_20, ft_21, ft_22, ft_23, ft_24, ft_25, ft_26, ft_27, ft_28, ft_29, ft_30, ft_31, ft_32, ft_33, ft_34, ft_35, ft_36, ft_37, ft_38, ft_40, ft_41, ft_42, ft_43, ft_44, ft_45, ft_46, ft_47, ft_48, ft_49, ft_50, ft_52, ft_53, ft_54, ft_55, ft_56, ft_57, ft_58, ft_59, ft_60, ft_61, ft_62, ft_63, dAllN, ov_add, ov_app, ov_sub, ov_mul, ov_div, ov_mod, ov_pow, ov_shl, ov_shr, ov_and, ov_or, ov_xor]
        exact st_ret he (weak_up hk' (hk _ _ (w3_of hx hm (by omega))))
      refine st_assignD ?_
      have hc : tv FT GT 24 f.σ (.cmp .Lt (.var 37) (.int 0)) = .ret (decide (near < 0)) := by simp only [tv, ev, f37, optT, Tree.bind, cv_lt, cv_le, cv_gt, cv_ge, cv_eq, cv_ne, cv_in, eqv_int, eqv_bool, eqv_list]
      rw [ev, hc]
      by_cases hlt : near < 0
      · rw [decide_eq_true hlt]
        have he : ev FT GT 24 f.σ (.call 54 [(.var 29)]) = .any 6 (fun v => ∃ w, v = .int w ∧ Word w) .ret := by
          simp only [ev, evL, f29, optT, Tree.bind, ft_0, ft_1, ft_2, ft_3, ft_4, ft_5, ft_6, ft_7, ft_8, ft_9, ft_12, ft_13, ft_14, ft_15, ft_16, ft_17, ft_18, ft_19, ft_20, ft_21, ft_22, ft_23, ft_24, ft_25, ft_26, ft_27, ft_28, ft_29, ft_30, ft_31, ft_32, ft_33, ft_34, ft_35, ft_36, ft_37, ft_38, ft_40, ft_41, ft_42, ft_43, ft_44, ft_45, ft_46, ft_47, ft_48, ft_49, ft_50, ft_52, ft_53, ft_54, ft_55, ft_56, ft_57, ft_58, ft_59, ft_60, ft_61, ft_62, ft_63, dWorth]
        show (ev FT GT 24 f.σ (.call 54 [(.var 29)])).All (.upto k) _
        rw [he]
        refine ⟨by omega, fun v hv => ?_⟩
        obtain ⟨x, rfl, hx⟩ := hv
        exact fin ⟨set f.σ 1 (.int x), f.own⟩ (k + 6) x (wd_of hx) (by omega) (by repeat (first | exact get_eq | exact f13 | refine get_ne rfl ?_)) (by repeat (first | exact get_eq | refine get_ne rfl ?_))
      · rw [decide_eq_false hlt]
        have he : ev FT GT 24 f.σ (.var 37) = .ret (.int near) := by simp only [ev, f37, optT]
        show (ev FT GT 24 f.σ (.var 37)).All (.upto k) _
        rw [he]
        exact fin ⟨set f.σ 1 (.int near), f.own⟩ k near ⟨by omega, hnear⟩ (by omega) (by repeat (first | exact get_eq | exact f13 | refine get_ne rfl ?_)) (by repeat (first | exact get_eq | refine get_ne rfl ?_))
  · simp only [Tree.All, Tree.upN, Tree.knP] at h
end Mine

set_option autoImplicit false
namespace Mine
open PySem
set_option maxRecDepth 10000
set_option linter.unusedSimpArgs false

section
variable {F : Nat → List V → Tree V} {G : Nat → Int}
theorem all_whileL {c : Fs → Tree Bool} {b : Fs → Out} {pn : Pn} {K : Pn → Fs × Option V → Prop} (Inv : Nat → Fs → Prop)
    (turn : ∀ m f, Inv m f → (c f = .ret false ∧ K pn (f, Option.none)) ∨ (c f = .ret true ∧ (b f).All pn fun q o => q = pn ∧ o.2 = Option.none ∧ ∃ m', m' < m ∧ Inv m' o.1)) :
    ∀ (k m : Nat) (f : Fs), m < k → Inv m f → (whileL c b k f).All pn K
  | 0, _, _, h, _ => by omega
  | k + 1, m, f, h, hi => by
    rw [whileL]
    rcases turn m f hi with ⟨h1, h2⟩ | ⟨h1, h2⟩
    · rw [h1]; exact h2
    · rw [h1, Tree.bind]
      refine Tree.all_bind_of _ _ (Tree.all_mono _ _ h2 fun q o ho => ?_)
      obtain ⟨f', v⟩ := o
      obtain ⟨rfl, rfl, m', hm, hi'⟩ := ho
      exact all_whileL Inv turn k m' f' (by omega) hi'
theorem all_while {n : Nat} {f : Fs} {c : X} {b : List S} {pn : Pn} {K : Pn → Fs × Option V → Prop} (Inv : Nat → Fs → Prop)
    (turn : ∀ m f, Inv m f → (tv F G n f.σ c = .ret false ∧ K pn (f, Option.none)) ∨ (tv F G n f.σ c = .ret true ∧ (exB F G n f b).All pn fun q o => q = pn ∧ o.2 = Option.none ∧ ∃ m', m' < m ∧ Inv m' o.1))
    (m : Nat) (hm : m < 70) (h0 : Inv m f) : (ex F G (n + 1) f (.whileS c b)).All pn K := all_whileL Inv turn turns m f hm h0
end

theorem sub_zero {z : Int} (hz : Wd 64 z) (h : Sub z 0) : z = 0 := Wd.ext hz ⟨by decide, by decide⟩ fun k _ => by
  rw [tb_zero]
  cases q : tb z k with
  | false => rfl
  | true => have := h k q; rw [tb_zero] at this; cases this
theorem Sub.trans {x y z : Int} (h : Sub x y) (g : Sub y z) : Sub x z := fun k q => g k (h k q)
theorem tb_drop {r : Int} {p : Nat} (hp : tb r p = true) (k : Nat) : tb (r - 2 ^ p) k = (tb r k && !decide (k = p)) := by
  rw [tb_subm (fun j hj => by rw [tb_pow] at hj; have := of_decide_eq_true hj; subst this; exact hp), tb_pow]
theorem wd_drop {r : Int} (hr : Wd 64 r) {p : Nat} (h64 : p < 64) (hp : tb r p = true) : Wd 64 (r - 2 ^ p) :=
  hr.sub (wd_pow h64) fun j hj => by rw [tb_pow] at hj; have := of_decide_eq_true hj; subst this; exact hp
/-- the part of x whose bits are no longer to do -/
noncomputable def past (x r : Int) : Int := x - band x r
noncomputable def atBit (x : Int) (p : Nat) : Int := if tb x p then 2 ^ p else 0
theorem past_drop {x r : Int} (hx : Wd 64 x) {p : Nat} (h64 : p < 64) (hp : tb r p = true) : past x (r - 2 ^ p) = past x r + atBit x p := by
  unfold past atBit
  have hb : Wd 64 (band x r) := hx.band
  cases q : tb x p with
  | true =>
    have hs : Sub (2 ^ p) (band x r) := fun j hj => by
      rw [tb_pow] at hj
      have := of_decide_eq_true hj
      subst this
      show tb (Builtin.bitAnd x r) j = true
      rw [tb_band, q, hp]; rfl
    have : band x (r - 2 ^ p) = band x r - 2 ^ p := Wd.ext (n := 64) hx.band (hb.sub (wd_pow h64) hs) fun k _ => by
      rw [tb_subm hs, show tb (band x (r - 2 ^ p)) k = _ from tb_band x _ k, tb_drop hp, show tb (band x r) k = _ from tb_band x r k, tb_pow, Bool.and_assoc]
    rw [this, if_pos rfl]; omega
  | false =>
    have : band x (r - 2 ^ p) = band x r := Wd.ext (n := 64) hx.band hb fun k _ => by
      rw [show tb (band x (r - 2 ^ p)) k = _ from tb_band x _ k, tb_drop hp, show tb (band x r) k = _ from tb_band x r k]
      by_cases e : k = p
      · subst e; rw [q]; rfl
      · rw [decide_eq_false e]; simp
    rw [this, if_neg (by simp)]; omega
theorem past_all {x r : Int} (hx : Wd 64 x) (h : Sub x r) : past x r = 0 := by
  unfold past
  have : band x r = x := Wd.ext (n := 64) hx.band hx fun k _ => by
    rw [show tb (band x r) k = _ from tb_band x r k]
    cases q : tb x k with
    | true => rw [h k q]; rfl
    | false => rfl
  omega
theorem past_none (x : Int) : past x 0 = x := by
  unfold past
  rw [show band x 0 = Builtin.bitAnd x (2 ^ 0 - 1) from rfl, band_mask, show (2 : Int) ^ 0 = 1 from rfl, Int.emod_one]
  omega
theorem mem_times {z f : Int} (h : Sub z f) (p : Nat) : Mem 0 (f * 2 ^ p % B64) (z * 2 ^ p % B64) := ⟨wd_mod _, fun k hk => by
  rw [tb_modB, tb_mul] at hk
  rw [tb_zero, tb_modB, tb_mul]
  cases q : tb z (k - p) with
  | true => rw [h _ q] at hk; exact hk
  | false => simp⟩
theorem mem_nought (m : Int) : Mem 0 m 0 := ⟨⟨by decide, by decide⟩, fun _ _ => rfl⟩
theorem tn_times (f : Int) (p : Nat) : Tn 0 (f * 2 ^ p % B64) := ⟨⟨by decide, by decide⟩, wd_mod _, fun k _ => tb_zero k⟩
section
variable {v1 m1 v2 m2 : Int}
/-- what a turn adds -/
noncomputable def term (v1 v2 : Int) (p : Nat) (x y : Int) : Int := atBit x p * y - atBit v1 p * v2
noncomputable def freeOf (v1 v2 m2 : Int) (p : Nat) : Int := if tb v1 p then m2 else bor v2 m2
theorem term_sub (h1 : Tn v1 m1) (h2 : Tn v2 m2) {x y : Int} (hx : Mem v1 m1 x) (hy : Mem v2 m2 y) (p : Nat) : ∃ z, Wd 64 z ∧ Sub z (freeOf v1 v2 m2 p) ∧ term v1 v2 p x y = z * 2 ^ p := by
  unfold term freeOf atBit
  cases q : tb v1 p with
  | true =>
    rw [hx.up h1.ap p q, if_pos rfl, if_pos rfl]
    refine ⟨y - v2, hy.1.sub h2.wv (hy.up h2.ap), fun k hk => ?_, by rw [Int.sub_mul, Int.mul_comm, Int.mul_comm v2]⟩
    rw [tb_subm (hy.up h2.ap)] at hk
    cases q2 : tb m2 k with
    | true => rfl
    | false => rw [hy.2 k q2] at hk; simp at hk
  | false =>
    simp only [Bool.false_eq_true, if_false]
    cases tb x p with
    | true =>
      refine ⟨y, hy.1, hy.down, ?_⟩
      simp only [if_true, Int.zero_mul, Int.sub_zero]
      exact Int.mul_comm _ _
    | false =>
      refine ⟨0, ⟨by decide, by decide⟩, (fun k hk => by rw [tb_zero] at hk; cases hk), ?_⟩
      simp only [Bool.false_eq_true, if_false, Int.zero_mul, Int.sub_zero]
theorem free_wd (h2 : Tn v2 m2) (p : Nat) : Wd 64 (freeOf v1 v2 m2 p) := by
  unfold freeOf
  split
  · exact h2.wm
  · exact h2.wv.bor h2.wm
/-- the state of the loop -/
structure MulInv (v1 m1 v2 m2 r fv fm : Int) : Prop where
  wr : Wd 64 r
  sub : Sub r (bor v1 m1)
  tn : Tn fv fm
  mem : ∀ x y, Mem v1 m1 x → Mem v2 m2 y → Mem fv fm ((past x r * y - past v1 r * v2) % B64)
theorem mul_start (h1 : Tn v1 m1) : MulInv v1 m1 v2 m2 (bor v1 m1) 0 0 := by
  refine ⟨h1.wv.bor h1.wm, fun _ q => q, tn_zero, fun x y hx hy => ?_⟩
  rw [past_all hx.1 hx.down, past_all h1.wv (mem_low (m := m1) h1.wv).down]
  simp only [Int.zero_mul, Int.sub_zero]
  exact mem_nought 0
noncomputable abbrev addV (v1 m1 v2 m2 : Int) : Int := woV (v1 + v2) (bor (bor (bxor (v1 + v2) (v1 + v2 + m1 + m2)) m1) m2)
noncomputable abbrev addM (v1 m1 v2 m2 : Int) : Int := bor (bor (bxor (v1 + v2) (v1 + v2 + m1 + m2)) m1) m2 % B64
theorem add_tn (a b c d : Int) : Tn (addV a b c d) (addM a b c d) := ⟨wd_woV _ _, wd_mod _, apart_woV _ _⟩
theorem step_sum (a y c v2 s t : Int) : (a + s) * y - (c + t) * v2 = (a * y - c * v2) + (s * y - t * v2) := by
  rw [Int.add_mul, Int.add_mul]; omega
theorem mul_step {r fv fm : Int} (h1 : Tn v1 m1) (h2 : Tn v2 m2) (I : MulInv v1 m1 v2 m2 r fv fm) {p : Nat} (h64 : p < 64) (hp : tb r p = true) :
    MulInv v1 m1 v2 m2 (r - 2 ^ p) (addV fv fm 0 (freeOf v1 v2 m2 p * 2 ^ p % B64)) (addM fv fm 0 (freeOf v1 v2 m2 p * 2 ^ p % B64)) := by
  refine ⟨wd_drop I.wr h64 hp, fun k hk => I.sub k (by rw [tb_drop hp] at hk; simp at hk; exact hk.1), add_tn _ _ _ _, fun x y hx hy => ?_⟩
  obtain ⟨z, hz, hzs, e⟩ := term_sub h1 h2 hx hy p
  unfold term at e
  rw [past_drop hx.1 h64 hp, past_drop h1.wv h64 hp, step_sum _ y _ v2 _ _, e, Int.add_emod]
  exact add_soundV I.tn (tn_times _ _) (I.mem x y hx hy) (mem_times hzs p)
theorem mul_skip {r fv fm : Int} (h1 : Tn v1 m1) (h2 : Tn v2 m2) (I : MulInv v1 m1 v2 m2 r fv fm) {p : Nat} (h64 : p < 64) (hp : tb r p = true) (hf : ¬ freeOf v1 v2 m2 p > 0) : MulInv v1 m1 v2 m2 (r - 2 ^ p) fv fm := by
  refine ⟨wd_drop I.wr h64 hp, fun k hk => I.sub k (by rw [tb_drop hp] at hk; simp at hk; exact hk.1), I.tn, fun x y hx hy => ?_⟩
  obtain ⟨z, hz, hzs, e⟩ := term_sub h1 h2 hx hy p
  have hf0 : freeOf v1 v2 m2 p = 0 := by have := (free_wd (v1 := v1) h2 p).1; omega
  rw [hf0] at hzs
  have z0 := sub_zero hz hzs
  unfold term at e
  rw [past_drop hx.1 h64 hp, past_drop h1.wv h64 hp, step_sum _ y _ v2 _ _, e, z0, Int.zero_mul, Int.add_zero]
  exact I.mem x y hx hy
theorem mul_end {fv fm : Int} (I : MulInv v1 m1 v2 m2 0 fv fm) {x y : Int} (hx : Mem v1 m1 x) (hy : Mem v2 m2 y) : Mem (addV (v1 * v2 % B64) 0 fv fm) (addM (v1 * v2 % B64) 0 fv fm) (x * y % B64) := by
  have h := I.mem x y hx hy
  rw [past_none, past_none] at h
  have := add_soundV (v1 := v1 * v2 % B64) (m1 := 0) ⟨wd_mod _, ⟨by decide, by decide⟩, fun k hk => by rw [tb_zero] at hk; cases hk⟩ I.tn (mem_low (wd_mod _)) h
  rw [← Int.add_emod, show v1 * v2 + (x * y - v1 * v2) = x * y by omega] at this
  exact this
end
theorem not_full {v m : Int} (h : W3 v m) : m ≠ M64 := fun e => by
  have := h.few
  rw [e, show bitsOf M64 = List.range 64 by decide +kernel, List.length_range] at this
  omega
theorem wd_small_int {x : Int} (h : Wd 64 x) : small x = true := small_of h
theorem bits_drop {r : Int} {p : Nat} (h64 : p < 64) (hp : tb r p = true) (hl : ∀ j, j < p → tb r j = false) : bitsOf r = p :: bitsOf (r - 2 ^ p) := bits_cons h64 hp hl fun k => tb_drop hp k
theorem band_pow_test {v : Int} (hv : Wd 64 v) {p : Nat} (h64 : p < 64) : (Builtin.bitAnd v (2 ^ p) != 0) = tb v p := by
  cases q : tb v p with
  | true =>
    have : Builtin.bitAnd v (2 ^ p) ≠ 0 := fun e => by
      have h := tb_band v (2 ^ p) p
      rw [e, tb_zero, q, tb_pow, decide_eq_true rfl] at h
      cases h
    simpa using this
  | false =>
    have : Builtin.bitAnd v (2 ^ p) = 0 := Wd.ext (n := 64) hv.band ⟨by decide, by decide⟩ fun k _ => by
      rw [tb_band, tb_pow, tb_zero]
      by_cases e : k = p
      · subst e; rw [q]; rfl
      · rw [decide_eq_false e]; simp
    rw [this]; rfl
theorem mul_run {v1 m1 v2 m2 : Int} (w1 : W3 v1 m1) (w2 : W3 v2 m2) {σ : Env} (f16 : get σ 16 = some (.tnum v1 m1)) (f17 : get σ 17 = some (.tnum v2 m2)) {pn : Pn} {K : Pn → V → Prop}
    (hk : ∀ V M, Tn V M → (∀ x y, Mem v1 m1 x → Mem v2 m2 y → Mem V M (x * y % B64)) → K pn (.tnum V M)) : (exB FT GT 29 ⟨σ, Option.none⟩ b_tnum_mul.tail).All pn fun q o => Weak K q (o.2.getD .none) := by
  have h1 := w1.tn
  have h2 := w2.tn
  have n1 : (m1 == M64) = false := by simpa using not_full w1
  have n2 : (m2 == M64) = false := by simpa using not_full w2
  have hc1 : tv FT GT 25 σ (.meth 21 (.var 16) []) = .ret (m1 == 0) := by
    simp only [tv, ev, evL, f16, optT, Tree.bind, ft_0, ft_1, ft_2, ft_3, ft_4, ft_5, ft_6, ft_7, ft_8, ft_9, ft_12, ft_13, ft_14, ft_15, ft_16, ft_17, ft_18, ft_19, ft_20, ft_21, ft_22, ft_23, ft_24, ft_25, ft_26, ft_27, ft_28, ft_29, ft_30, ft_31, ft_32, ft_33, ft_34, ft_35, ft_36, ft_37, ft_38, ft_40, ft_41, ft_42, ft_43, ft_44, ft_45, ft_46, ft_47, ft_48, ft_49, ft_50, ft_52, ft_53, ft_54, ft_55, ft_56, ft_57, ft_58, ft_59, ft_60, ft_61, ft_62, ft_63, dIsConst, truthyV]
  have hc2 : tv FT GT 26 σ (.orE [(.cmp .Eq (.mask (.var 16)) (.gint 10)), (.cmp .Eq (.mask (.var 17)) (.gint 10))]) = .ret false := by
    simp only [tv, chainT, ev, f16, f17, optT, Tree.bind, cv_lt, cv_le, cv_gt, cv_ge, cv_eq, cv_ne, cv_in, eqv_int, eqv_bool, eqv_list, gt_10]
    rw [n1, n2]; rfl
  have hc : tv FT GT 27 σ (.andE [(.notE (.meth 21 (.var 16) [])), (.orE [(.cmp .Eq (.mask (.var 16)) (.gint 10)), (.cmp .Eq (.mask (.var 17)) (.gint 10))])]) = .ret false := by
    rw [tv, chainT, chainT, hc2]
    have hn : tv FT GT 26 σ (.notE (.meth 21 (.var 16) [])) = .ret (!(m1 == 0)) := by
      rw [tv, hc1]; rfl
    rw [hn]
    cases (m1 == 0) <;> rfl
  refine st_if hc ?_
  refine st_assign (v := .tnum 0 0) (by simp only [ev, evL, Tree.bind, ft_0, ft_1, ft_2, ft_3, ft_4, ft_5, ft_6, ft_7, ft_8, ft_9, ft_12, ft_13, ft_14, ft_15, ft_16, ft_17, ft_18, ft_19, ft_20, ft_21, ft_22, ft_23, ft_24, ft_25, ft_26, ft_27, ft_28, ft_29, ft_30, ft_31, ft_32, ft_33, ft_34, ft_35, ft_36, ft_37, ft_38, ft_40, ft_41, ft_42, ft_43, ft_44, ft_45, ft_46, ft_47, ft_48, ft_49, ft_50, ft_52, ft_53, ft_54, ft_55, ft_56, ft_57, ft_58, ft_59, ft_60, ft_61, ft_62, ft_63, dTnum]) ?_
  refine st_assign (v := .int (bor v1 m1)) (by simp only [ev, get_set, f16, optT, Tree.bind, ov_add, ov_app, ov_sub, ov_mul, ov_div, ov_mod, ov_pow, ov_shl, ov_shr, ov_and, ov_or, ov_xor, if_false, Nat.reduceEqDiff]) ?_
  dsimp only
  have hbl := bits_len (bor v1 m1)
  refine all_seq (all_while (fun m f => get f.σ 16 = some (.tnum v1 m1) ∧ get f.σ 17 = some (.tnum v2 m2) ∧ ∃ r fv fm, get f.σ 11 = some (.int r) ∧ get f.σ 10 = some (.tnum fv fm) ∧ MulInv v1 m1 v2 m2 r fv fm ∧ m = (bitsOf r).length) (fun m f hf => ?_) (bitsOf (bor v1 m1)).length (by omega)
    ⟨by repeat (first | exact get_eq | exact f16 | refine get_ne rfl ?_), by repeat (first | exact get_eq | exact f17 | refine get_ne rfl ?_), bor v1 m1, 0, 0, by repeat (first | exact get_eq | refine get_ne rfl ?_), by repeat (first | exact get_eq | refine get_ne rfl ?_), mul_start h1, rfl⟩)
  obtain ⟨f16, f17, r, fv, fm, f11, f10, I, hm⟩ := hf
  have hct : tv FT GT 24 f.σ (.cmp .Gt (.var 11) (.int 0)) = .ret (decide (r > 0)) := by simp only [tv, ev, f11, optT, Tree.bind, cv_lt, cv_le, cv_gt, cv_ge, cv_eq, cv_ne, cv_in, eqv_int, eqv_bool, eqv_list]
  by_cases hr : r > 0
  · rw [decide_eq_true hr] at hct
    refine .inr ⟨hct, ?_⟩
    obtain ⟨p, p64, hp, hl⟩ := low_bit I.wr hr
    have hbc := bits_drop p64 hp hl
    refine st_assign (v := .int (2 ^ p)) (by simp only [ev, f11, optT, Tree.bind, ov_add, ov_app, ov_sub, ov_mul, ov_div, ov_mod, ov_pow, ov_shl, ov_shr, ov_and, ov_or, ov_xor, band_neg I.wr p64 hp hl]) ?_
    have ht : ∀ σ : Env, get σ 16 = some (.tnum v1 m1) → get σ 4 = some (.int (2 ^ p)) → tv FT GT 20 σ (.bin .BitAnd (.value (.var 16)) (.var 4)) = .ret (tb v1 p) := fun σ g16 g4 => by
      simp only [tv, ev, g16, g4, optT, Tree.bind, ov_add, ov_app, ov_sub, ov_mul, ov_div, ov_mod, ov_pow, ov_shl, ov_shr, ov_and, ov_or, ov_xor, truthyV]
      rw [band_pow_test h1.wv p64]
    have hfree : ev FT GT 21 (set f.σ 4 (.int (2 ^ p))) (.ite (.bin .BitAnd (.value (.var 16)) (.var 4)) (.mask (.var 17)) (.bin .BitOr (.value (.var 17)) (.mask (.var 17)))) = .ret (.int (freeOf v1 v2 m2 p)) := by
      rw [ev, ht _ (by repeat (first | exact get_eq | exact f16 | refine get_ne rfl ?_)) (by repeat (first | exact get_eq | refine get_ne rfl ?_))]
      unfold freeOf
      cases tb v1 p with
      | true => simp only [Tree.bind, ev, get_set, f17, optT, if_true, if_false, Nat.reduceEqDiff]
      | false => simp only [Tree.bind, ev, get_set, f17, optT, ov_add, ov_app, ov_sub, ov_mul, ov_div, ov_mod, ov_pow, ov_shl, ov_shr, ov_and, ov_or, ov_xor, Bool.false_eq_true, if_false, Nat.reduceEqDiff]
    refine st_assign hfree ?_
    have hwf := free_wd (v1 := v1) h2 p
    have done : ∀ (f' : Fs) (gv gm : Int), get f'.σ 16 = some (.tnum v1 m1) → get f'.σ 17 = some (.tnum v2 m2) → get f'.σ 11 = some (.int r) → get f'.σ 4 = some (.int (2 ^ p)) → get f'.σ 10 = some (.tnum gv gm) → MulInv v1 m1 v2 m2 (r - 2 ^ p) gv gm →
        (exB FT GT 21 f' [.assign 11 (.bin .Sub (.var 11) (.var 4))]).All pn fun q o => q = pn ∧ o.2 = Option.none ∧ ∃ m', m' < m ∧ (get o.1.σ 16 = some (.tnum v1 m1) ∧ get o.1.σ 17 = some (.tnum v2 m2) ∧ ∃ r fv fm, get o.1.σ 11 = some (.int r) ∧ get o.1.σ 10 = some (.tnum fv fm) ∧ MulInv v1 m1 v2 m2 r fv fm ∧ m' = (bitsOf r).length) := fun f' gv gm g16 g17 g11 g4 g10 J => by
      refine st_assign (v := .int (r - 2 ^ p)) (by simp only [ev, g11, g4, optT, Tree.bind, ov_add, ov_app, ov_sub, ov_mul, ov_div, ov_mod, ov_pow, ov_shl, ov_shr, ov_and, ov_or, ov_xor]) (all_nil ⟨rfl, rfl, (bitsOf (r - 2 ^ p)).length, by rw [hm, hbc]; exact Nat.lt_succ_self _, by simp [get_set, g16], by simp [get_set, g17], r - 2 ^ p, gv, gm, by repeat (first | exact get_eq | refine get_ne rfl ?_), by simp [get_set, g10], J, rfl⟩)
    have hcg : tv FT GT 20 (set (set f.σ 4 (.int (2 ^ p))) 5 (.int (freeOf v1 v2 m2 p))) (.cmp .Gt (.var 5) (.int 0)) = .ret (decide (freeOf v1 v2 m2 p > 0)) := by
      simp only [tv, ev, get_set, if_true, optT, Tree.bind, cv_lt, cv_le, cv_gt, cv_ge, cv_eq, cv_ne, cv_in, eqv_int, eqv_bool, eqv_list]
    by_cases hg : freeOf v1 v2 m2 p > 0
    · rw [decide_eq_true hg] at hcg
      refine all_seq ?_
      rw [ex]
      dsimp only
      rw [hcg]
      refine st_assign (f := ⟨set (set f.σ 4 (.int (2 ^ p))) 5 (.int (freeOf v1 v2 m2 p)), f.own⟩) (v := .tnum (addV fv fm 0 (freeOf v1 v2 m2 p * 2 ^ p % B64)) (addM fv fm 0 (freeOf v1 v2 m2 p * 2 ^ p % B64))) ?_ (all_nil ⟨rfl, ?_⟩)
      · have gm : (small (freeOf v1 v2 m2 p) || small (2 ^ p)) = true := by rw [small_of hwf]; rfl
        simp only [ev, evL, get_set, f10, optT, Tree.bind, ov_add, ov_app, ov_sub, ov_mul, ov_div, ov_mod, ov_pow, ov_shl, ov_shr, ov_and, ov_or, ov_xor, guard_true gm, ft_0, ft_1, ft_2, ft_3, ft_4, ft_5, ft_6, ft_7, ft_8, ft_9, ft_12, ft_13, ft_14, ft_15, ft_16, ft_17, ft_18, ft_19, ft_20, ft_21, ft_22, ft_23, ft_24, ft_25, ft_26, ft_27, ft_28, ft_29, ft_30, ft_31, ft_32, ft_33, ft_34, ft_35, ft_36, ft_37, ft_38, ft_40, ft_41, ft_42, ft_43, ft_44, ft_45, ft_46, ft_47, ft_48, ft_49, ft_50, ft_52, ft_53, ft_54, ft_55, ft_56, ft_57, ft_58, ft_59, ft_60, ft_61, ft_62, ft_63, dWrap, dTnum, two, if_true, if_false, Nat.reduceEqDiff]
        rfl
      · exact done ⟨set (set (set f.σ 4 (.int (2 ^ p))) 5 (.int (freeOf v1 v2 m2 p))) 10 _, f.own⟩ _ _ (by repeat (first | exact get_eq | exact f16 | refine get_ne rfl ?_)) (by repeat (first | exact get_eq | exact f17 | refine get_ne rfl ?_)) (by repeat (first | exact get_eq | exact f11 | refine get_ne rfl ?_)) (by repeat (first | exact get_eq | refine get_ne rfl ?_)) (get_eq) (mul_step h1 h2 I p64 hp)
    · rw [decide_eq_false hg] at hcg
      refine st_if hcg ?_
      exact done ⟨set (set f.σ 4 (.int (2 ^ p))) 5 (.int (freeOf v1 v2 m2 p)), f.own⟩ fv fm (by repeat (first | exact get_eq | exact f16 | refine get_ne rfl ?_)) (by repeat (first | exact get_eq | exact f17 | refine get_ne rfl ?_)) (by repeat (first | exact get_eq | exact f11 | refine get_ne rfl ?_)) (by repeat (first | exact get_eq | refine get_ne rfl ?_)) (by repeat (first | exact get_eq | exact f10 | refine get_ne rfl ?_)) (mul_skip h1 h2 I p64 hp hg)
  · rw [decide_eq_false hr] at hct
    refine .inl ⟨hct, rfl, ?_⟩
    have r0 : r = 0 := by have := I.wr.1; omega
    subst r0
    have gm : (small v1 || small v2) = true := by rw [small_of h1.wv]; rfl
    refine st_ret (v := .tnum (addV (v1 * v2 % B64) 0 fv fm) (addM (v1 * v2 % B64) 0 fv fm)) ?_ (.inl (hk _ _ (add_tn _ _ _ _) fun x y hx hy => mul_end I hx hy))
    simp only [ev, evL, f16, f17, f10, optT, Tree.bind, ov_add, ov_app, ov_sub, ov_mul, ov_div, ov_mod, ov_pow, ov_shl, ov_shr, ov_and, ov_or, ov_xor, guard_true gm, ft_0, ft_1, ft_2, ft_3, ft_4, ft_5, ft_6, ft_7, ft_8, ft_9, ft_12, ft_13, ft_14, ft_15, ft_16, ft_17, ft_18, ft_19, ft_20, ft_21, ft_22, ft_23, ft_24, ft_25, ft_26, ft_27, ft_28, ft_29, ft_30, ft_31, ft_32, ft_33, ft_34, ft_35, ft_36, ft_37, ft_38, ft_40, ft_41, ft_42, ft_43, ft_44, ft_45, ft_46, ft_47, ft_48, ft_49, ft_50, ft_52, ft_53, ft_54, ft_55, ft_56, ft_57, ft_58, ft_59, ft_60, ft_61, ft_62, ft_63, dConst, two]
    rfl
theorem sim_tnum_mul (us : List V) (pn : Pn) (K : Pn → V → Prop) (h : (dMul us).All pn K) : us.length = 2 ∧ (runB FT GT 30 b_tnum_mul ([16, 17].zip us)).All pn (Weak K) := by
  unfold dMul at h
  split at h
  · rename_i v1 m1 v2 m2
    obtain ⟨⟨w1, w2⟩, h⟩ := need_all h
    obtain ⟨n, rfl, hn, hk⟩ := any_all h
    have hk : ∀ V M, Tn V M → (∀ x y, Mem v1 m1 x → Mem v2 m2 y → Mem V M (x * y % B64)) → K (.upto n) (.tnum V M) := fun V M ht hm => by
      have := hk (.tnum V M) ⟨V, M, rfl, word_of ht.wv, word_of ht.wm, of_apart ht.wv ht.ap, fun x hx y hy => (contains_iff ht (wd_mod _)).mpr (hm x y ((mem_mems w1.tn).mp hx) ((mem_mems w2.tn).mp hy))⟩
      simp only [Tree.All, Tree.upN, Tree.knP] at this
      exact this
    refine ⟨rfl, ?_⟩
    generalize hσ : List.zip _ _ = σ
    have f16 : get σ 16 = some (.tnum v1 m1) := by rw [← hσ]; rfl
    have f17 : get σ 17 = some (.tnum v2 m2) := by rw [← hσ]; rfl
    refine all_def ?_
    have hc : tv FT GT 28 σ (.meth 21 (.var 17) []) = .ret (m2 == 0) := by
      simp only [tv, ev, evL, f17, optT, Tree.bind, ft_0, ft_1, ft_2, ft_3, ft_4, ft_5, ft_6, ft_7, ft_8, ft_9, ft_12, ft_13, ft_14, ft_15, ft_16, ft_17, ft_18, ft_19, ft_20, ft_21, ft_22, ft_23, ft_24, ft_25, ft_26, ft_27, ft_28, ft_29, ft_30, ft_31, ft_32, ft_33, ft_34, ft_35, ft_36, ft_37, ft_38, ft_40, ft_41, ft_42, ft_43, ft_44, ft_45, ft_46, ft_47, ft_48, ft_49, ft_50, ft_52, ft_53, ft_54, ft_55, ft_56, ft_57, ft_58, ft_59, ft_60, ft_61, ft_62, ft_63, dIsConst, truthyV]
    show (exB FT GT 30 ⟨σ, Option.none⟩ (.ifS (.meth 21 (.var 17) []) [.assignT [16, 17] [(.var 17), (.var 16)]] [] :: b_tnum_mul.tail)).All (.upto n) _
    refine all_seq ?_
    rw [ex]
    dsimp only
    rw [hc]
    cases (m2 == 0) with
    | false => exact ⟨rfl, mul_run w1 w2 f16 f17 hk⟩
    | true =>
      refine st_assignT (f := ⟨σ, Option.none⟩) (vs := [.tnum v2 m2, .tnum v1 m1]) (by simp only [evL, ev, f16, f17, optT, Tree.bind]) rfl (all_nil ⟨rfl, ?_⟩)
      exact mul_run w2 w1 (by repeat (first | exact get_eq | refine get_ne rfl ?_)) (by repeat (first | exact get_eq | refine get_ne rfl ?_)) fun V M ht hm => hk V M ht fun x y hx hy => by rw [Int.mul_comm]; exact hm y x hy hx
  · simp only [Tree.All, Tree.upN, Tree.knP] at h
end Mine

set_option autoImplicit false
namespace Mine
open PySem
set_option maxRecDepth 10000
set_option linter.unusedSimpArgs false

section
variable {F : Nat → List V → Tree V} {G : Nat → Int}
theorem st_own {n x : Nat} {f : Fs} {e : X} {vs : List V} {r : List S} {pn : Pn} {K : Pn → Fs × Option V → Prop} (h : ev F G n f.σ e = .ret (.list vs)) (hf : freshX e = true) (ho : f.own = Option.none) (k : (exB F G (n + 1) ⟨del f.σ x, some (x, vs)⟩ r).All pn K) : (exB F G (n + 2) f (.own x e :: r)).All pn K :=
  all_seq (by rw [ex, hf, ho, h]; exact ⟨rfl, k⟩)
theorem st_append {n x : Nat} {f : Fs} {e : X} {v : V} {vs : List V} {r : List S} {pn : Pn} {K : Pn → Fs × Option V → Prop} (h : ev F G n f.σ e = .ret v) (ho : f.own = some (x, vs)) (hl : vs.length ≤ 1000000) (k : (exB F G (n + 1) ⟨f.σ, some (x, vs ++ [v])⟩ r).All pn K) : (exB F G (n + 2) f (.append x e :: r)).All pn K :=
  all_seq (by
    rw [ex, ho]
    dsimp only
    rw [Nat.beq_refl, cond_true, h, Tree.bind, guard_true (decide_eq_true hl)]
    exact ⟨rfl, k⟩)
theorem st_freeze {n x : Nat} {f : Fs} {vs : List V} {r : List S} {pn : Pn} {K : Pn → Fs × Option V → Prop} (ho : f.own = some (x, vs)) (k : (exB F G (n + 1) ⟨set f.σ x (.list vs), Option.none⟩ r).All pn K) : (exB F G (n + 2) f (.freeze x :: r)).All pn K :=
  all_seq (by
    rw [ex, ho]
    dsimp only
    rw [Nat.beq_refl, cond_true]
    exact ⟨rfl, k⟩)
theorem ev_comp2 {n : Nat} {σ : Env} {elt src1 src2 : X} {t1 t2 : Nat} {cap gl : List Nat} {xs ys : List Int} (k : Int → Int → V) (hb : bound σ cap = true) (h1 : ev F G n σ src1 = .ret (.list (xs.map .int))) (l1 : xs.length ≤ 1000) (l2 : ys.length ≤ 1000)
    (h2 : ∀ x ∈ xs, ev F G n (set (only σ cap) t1 (.int x)) src2 = .ret (.list (ys.map .int))) (h : ∀ x ∈ xs, ∀ y ∈ ys, ev F G n (set (set (only σ cap) t1 (.int x)) t2 (.int y)) elt = .ret (k x y)) :
    ev F G (n + 1) σ (.comp2 elt t1 src1 t2 src2 cap gl) = .ret (.list ((prs xs ys).map fun p => k p.1 p.2)) := by
  rw [ev, hb, guard_true rfl, h1, Tree.bind]
  dsimp only
  rw [guard_true (by rw [List.length_map]; exact decide_eq_true l1), flat_all _ V.int (fun x => ys.map (k x)) xs fun x hx => by
    rw [rowF, h2 x hx, Tree.bind]
    dsimp only
    rw [guard_true (by rw [List.length_map]; exact decide_eq_true l2)]
    exact comp_all _ V.int (k x) ys fun y hy => by
      rw [itemF, bindT_1]
      dsimp only [Tree.bind]
      rw [h x hx y hy]; rfl]
  unfold prs
  rw [Tree.bind, List.map_flatMap]
  simp only [List.map_map, Function.comp_def]
end

/-- a row: what is told, and the results -/
noncomputable def rowV (r : Int × Int × List Int) : V := .tup [.tnum r.1 r.2.1, .list (r.2.2.map .int)]
noncomputable def Right (r : Int × Int × List Int) : Prop := r.2.2 ≠ [] ∧ andAll r.2.2 = r.1 ∧ orAll r.2.2 - andAll r.2.2 = r.2.1
theorem best_of {ns : List Int} (h : ns ≠ []) : FT 57 [.list (ns.map .int)] = .ret (.tup [.int (andAll ns), .int (orAll ns - andAll ns)]) := by
  cases ns with
  | nil => exact absurd rfl h
  | cons n r => show dBest [.list ((n :: r).map .int)] = _; rw [dBest, ints_map]
theorem told_of (v m : Int) : FT 28 [.tnum v m] = .ret (.tup [.int v, .int m]) := rfl
theorem eq_pair (a b c d : Int) : eqV (.tup [.int a, .int b]) (.tup [.int c, .int d]) = some (a == c && (b == d && true)) := rfl
theorem eq_pair_self (a b : Int) : eqV (.tup [.int a, .int b]) (.tup [.int a, .int b]) = some true := by
  rw [eq_pair, beq_self_eq_true, beq_self_eq_true]; rfl
theorem all_true {α : Type} (xs : List α) : dAll [.list (xs.map fun _ => V.bool true)] = .ret (.bool true) := by
  rw [show (xs.map fun _ => V.bool true) = (xs.map fun _ => true).map V.bool by rw [List.map_map]; rfl, dAll, bools_map]
  have : (List.map (fun _ : α => true) xs).all id = true := by simp
  dsimp only
  rw [this]
theorem rows_right {n : Nat} {σ : Env} {rows : List (Int × Int × List Int)} {gl : List Nat} (good : ∀ r ∈ rows, Right r) (h42 : get σ 42 = some (.list (rows.map rowV))) :
    ev FT GT (n + 5) σ (.call 6 [(.comp (.cmp .Eq (.meth 28 (.var 43) []) (.call 57 [(.var 47)])) true [43, 47] (.var 42) Option.none [] gl)]) = .ret (.bool true) := by
  have hc := ev_comp (F := FT) (G := GT) (n := n + 3) (σ := σ) (elt := .cmp .Eq (.meth 28 (.var 43) []) (.call 57 [(.var 47)])) (src := .var 42) (tt := true) (ts := [43, 47]) (cap := []) (gl := gl) (xs := rows) rowV (fun _ => .bool true) rfl (by rw [ev, h42]; rfl) rfl rfl fun r hr => by
    obtain ⟨g1, g2, g3⟩ := good r hr
    refine ⟨_, rfl, ?_⟩
    have e1 : ev FT GT (n + 2) (set (set (only σ []) 43 (.tnum r.1 r.2.1)) 47 (.list (r.2.2.map .int))) (.meth 28 (.var 43) []) = .ret (.tup [.int r.1, .int r.2.1]) := rfl
    have e2 : ev FT GT (n + 2) (set (set (only σ []) 43 (.tnum r.1 r.2.1)) 47 (.list (r.2.2.map .int))) (.call 57 [(.var 47)]) = .ret (.tup [.int r.1, .int r.2.1]) := by
      rw [ev, evL, evL, show ev FT GT (n + 1) (set (set (only σ []) 43 (.tnum r.1 r.2.1)) 47 (.list (r.2.2.map .int))) (.var 47) = .ret (.list (r.2.2.map .int)) from rfl]
      dsimp only [Tree.bind]
      rw [best_of g1, g3, g2]
    rw [ev, e1, e2]
    dsimp only [Tree.bind]
    rw [cv_eq, eq_pair_self]; rfl
  rw [ev, evL, evL, hc]
  exact all_true rows
end Mine

set_option autoImplicit false
namespace Mine
open PySem
set_option maxRecDepth 10000
set_option linter.unusedSimpArgs false

/-- what the frame of the first questions holds -/
structure TwoE (v1 m1 v2 m2 : Int) (σ : Env) : Prop where
  g38 : get σ 38 = some (.tnum v1 m1)
  g48 : get σ 48 = some (.tnum v2 m2)
  g49 : get σ 49 = some (.list ((mems v1 m1).map .int))
  g50 : get σ 50 = some (.list ((mems v2 m2).map .int))
  g41 : get σ 41 = some (.list ((prs (mems v1 m1) (mems v2 m2)).map fun p => .tup [.int p.1, .int p.2]))
noncomputable def twoFree (i : Nat) : Bool := !Nat.beq i 38 && !Nat.beq i 48 && !Nat.beq i 49 && !Nat.beq i 50 && !Nat.beq i 41
theorem ne_of_beq {i j : Nat} (h : (!Nat.beq i j) = true) : ¬ i = j := fun e => by subst e; rw [Nat.beq_refl] at h; cases h
section
variable {v1 m1 v2 m2 : Int}
theorem TwoE.set {σ : Env} (E : TwoE v1 m1 v2 m2 σ) {i : Nat} (h : twoFree i = true) (v : V) : TwoE v1 m1 v2 m2 (set σ i v) := by
  simp only [twoFree, Bool.and_eq_true] at h
  obtain ⟨⟨⟨⟨a, b⟩, c⟩, d⟩, e⟩ := h
  exact ⟨get_ne a E.g38, get_ne b E.g48, get_ne c E.g49, get_ne d E.g50, get_ne e E.g41⟩
theorem TwoE.del {σ : Env} (E : TwoE v1 m1 v2 m2 σ) {i : Nat} (h : twoFree i = true) : TwoE v1 m1 v2 m2 (del σ i) := by
  simp only [twoFree, Bool.and_eq_true] at h
  obtain ⟨⟨⟨⟨a, b⟩, c⟩, d⟩, e⟩ := h
  exact ⟨del_ne a E.g38, del_ne b E.g48, del_ne c E.g49, del_ne d E.g50, del_ne e E.g41⟩
noncomputable def two2 (v1 m1 v2 m2 : Int) (f : Int → Int → Int) : List Int := (prs (mems v1 m1) (mems v2 m2)).map fun p => f p.1 p.2
theorem right2 {f : Int → Int → Int} {V M : Int} (h1 : Tn v1 m1) (h2 : Tn v2 m2) (o : Op2 f v1 m1 v2 m2 V M) : Right (V, M, two2 v1 m1 v2 m2 f) :=
  ⟨by unfold two2; simpa using prs_ne h1 h2, (best2 h1 h2 o).1, (best2 h1 h2 o).2⟩
theorem ev_tup2 {F : Nat → List V → Tree V} {G : Nat → Int} {n : Nat} {σ : Env} {a b : X} {u v : V} (ha : ev F G n σ a = .ret u) (hb : ev F G n σ b = .ret v) : ev F G (n + 1) σ (.tup [a, b]) = .ret (.tup [u, v]) := by
  rw [ev, evL, ha, evL, hb]; rfl
theorem two_call {n : Nat} {σ : Env} (E : TwoE v1 m1 v2 m2 σ) {g : Nat} {v : V} (hop : FT g [.tnum v1 m1, .tnum v2 m2] = .ret v) : ev FT GT (n + 2) σ (.call g [.var 38, .var 48]) = .ret v := by
  rw [ev, evL, evL, evL, ev, E.g38, ev, E.g48]
  dsimp only [optT, Tree.bind]
  exact hop
theorem two_row {n : Nat} {σ : Env} (E : TwoE v1 m1 v2 m2 σ) {g : Nat} {elt : X} {gl : List Nat} {V' M : Int} (f : Int → Int → Int) (hop : FT g [.tnum v1 m1, .tnum v2 m2] = .ret (.tnum V' M)) (helt : ∀ x y, ev FT GT (n + 1) [(45, .int x), (46, .int y)] elt = .ret (.int (f x y))) :
    ev FT GT (n + 3) σ (.tup [.call g [.var 38, .var 48], .comp elt true [45, 46] (.var 41) Option.none [] gl]) = .ret (rowV (V', M, two2 v1 m1 v2 m2 f)) := by
  refine ev_tup2 (two_call E hop) ?_
  have := ev_compP (F := FT) (G := GT) (n := n + 1) (σ := σ) (elt := elt) (src := .var 41) (t := 45) (u := 46) (cap := []) (gl := gl) (xs := prs (mems v1 m1) (mems v2 m2)) (fun p => .int (f p.1 p.2)) rfl (by rw [ev, E.g41]; rfl) fun p _ => helt p.1 p.2
  rw [this]
  unfold two2
  rw [List.map_map]; rfl
theorem ev_list1 {F : Nat → List V → Tree V} {G : Nat → Int} {n : Nat} {σ : Env} {a : X} {u : V} (ha : ev F G n σ a = .ret u) : ev F G (n + 1) σ (.list [a]) = .ret (.list [u]) := by
  rw [ev, evL, ha]; rfl
theorem ev_list2 {F : Nat → List V → Tree V} {G : Nat → Int} {n : Nat} {σ : Env} {a b : X} {u v : V} (ha : ev F G n σ a = .ret u) (hb : ev F G n σ b = .ret v) : ev F G (n + 1) σ (.list [a, b]) = .ret (.list [u, v]) := by
  rw [ev, evL, ha, evL, hb]; rfl
theorem ev_join {F : Nat → List V → Tree V} {G : Nat → Int} {n : Nat} {σ : Env} {a b : X} {us vs : List V} (ha : ev F G n σ a = .ret (.list us)) (hb : ev F G n σ b = .ret (.list vs)) (hl : us.length + vs.length ≤ 1000000) : ev F G (n + 1) σ (.bin .Add a b) = .ret (.list (us ++ vs)) := by
  rw [ev, ha, hb, Tree.bind, Tree.bind, ov_app, guard_true (decide_eq_true hl)]
theorem ev_bin {F : Nat → List V → Tree V} {G : Nat → Int} {n : Nat} {σ : Env} {op : Operator} {l r : X} {a b v : V} (ha : ev F G n σ l = .ret a) (hb : ev F G n σ r = .ret b) (ho : opV op a b = .ret v) : ev F G (n + 1) σ (.bin op l r) = .ret v := by
  rw [ev, ha, hb]; exact ho
theorem ev_varOf {F : Nat → List V → Tree V} {G : Nat → Int} {n i : Nat} {σ : Env} {v : V} (h : get σ i = some v) : ev F G (n + 1) σ (.var i) = .ret v := by rw [ev, h]; rfl
theorem fmodB (x : Int) : x.fmod B64 = x % B64 := Int.fmod_eq_emod_of_nonneg _ (by decide)
theorem fmodH (x : Int) : x.fmod 4294967296 = x % 4294967296 := Int.fmod_eq_emod_of_nonneg _ (by decide)
theorem guardB {α : Type} (t : Tree α) : guard (B64 != 0) t = t := guard_true (by decide) t
theorem guardH {α : Type} (t : Tree α) : guard ((4294967296 : Int) != 0) t = t := guard_true (by decide) t
theorem elt_add (n : Nat) (x y : Int) : ev FT GT (n + 4) [(45, .int x), (46, .int y)] (.bin .Mod (.bin .Add (.var 45) (.var 46)) (.call 49 [])) = .ret (.int ((x + y) % B64)) := by
  show guard (B64 != 0) (Tree.ret (V.int ((x + y).fmod B64))) = _
  rw [guardB, fmodB]
theorem elt_sub (n : Nat) (x y : Int) : ev FT GT (n + 4) [(45, .int x), (46, .int y)] (.bin .Mod (.bin .Sub (.var 45) (.var 46)) (.call 49 [])) = .ret (.int ((x - y) % B64)) := by
  show guard (B64 != 0) (Tree.ret (V.int ((x - y).fmod B64))) = _
  rw [guardB, fmodB]
theorem elt_with (n : Nat) (x y : Int) : ev FT GT (n + 4) [(45, .int x), (46, .int y)] (.bin .Add (.bin .Sub (.var 45) (.bin .Mod (.var 45) (.call 50 []))) (.bin .Mod (.var 46) (.call 50 []))) = .ret (.int (x - x % 4294967296 + y % 4294967296)) := by
  have hm : ∀ (k i : Nat) (z : Int), get [(45, V.int x), (46, V.int y)] i = some (.int z) → ev FT GT (k + 2) [(45, .int x), (46, .int y)] (.bin .Mod (.var i) (.call 50 [])) = .ret (.int (z % 4294967296)) := fun k i z h =>
    ev_bin (ev_varOf h) (b := .int 4294967296) rfl (by simp only [ov_add, ov_app, ov_sub, ov_mul, ov_div, ov_mod, ov_pow, ov_shl, ov_shr, ov_and, ov_or, ov_xor]; rw [guardH, fmodH])
  exact ev_bin (ev_bin (a := .int x) rfl (hm (n + 0) 45 x rfl) rfl) (hm (n + 1) 46 y rfl) rfl
theorem two_comm {n : Nat} {σ : Env} (E : TwoE v1 m1 v2 m2 σ) : ev FT GT (n + 3) σ (.comp (.var 45) false [45] (.var 49) (some (.cmp .In (.var 45) (.var 50))) [50] []) = .ret (.list ((common v1 m1 v2 m2).map .int)) :=
  ev_compF (F := FT) (G := GT) (n := n + 2) (elt := .var 45) (xs := mems v1 m1) V.int (fun x => (mems v2 m2).any (· == x)) (by rw [bound, List.all_cons, E.g50]; rfl) (ev_varOf E.g49)
    (fun x _ => by
      have h5 : only σ [50] = [(50, .list ((mems v2 m2).map .int))] := by rw [only, E.g50]; rfl
      rw [h5, tv, show ev FT GT (n + 1) (set [(50, .list ((mems v2 m2).map .int))] 45 (.int x)) (.var 45) = .ret (.int x) from rfl, show ev FT GT (n + 1) (set [(50, .list ((mems v2 m2).map .int))] 45 (.int x)) (.var 50) = .ret (.list ((mems v2 m2).map .int)) from rfl]
      dsimp only [Tree.bind]
      rw [cv_in, ints_map])
    (fun x _ => ev_varOf (get_eq))
theorem tv_cmp {F : Nat → List V → Tree V} {G : Nat → Int} {n : Nat} {σ : Env} {op : CmpOp} {l r : X} {a b : V} {c : Bool} (ha : ev F G n σ l = .ret a) (hb : ev F G n σ r = .ret b) (ho : cmpV op a b = .ret c) : tv F G (n + 1) σ (.cmp op l r) = .ret c := by
  rw [tv, ha, hb]; exact ho
theorem ev_cmp {F : Nat → List V → Tree V} {G : Nat → Int} {n : Nat} {σ : Env} {op : CmpOp} {l r : X} {a b : V} {c : Bool} (ha : ev F G n σ l = .ret a) (hb : ev F G n σ r = .ret b) (ho : cmpV op a b = .ret c) : ev F G (n + 1) σ (.cmp op l r) = .ret (.bool c) := by
  rw [ev, ha, hb, Tree.bind, Tree.bind, ho]; rfl
theorem tv_or2 {F : Nat → List V → Tree V} {G : Nat → Int} {n : Nat} {σ : Env} {a b : X} (ha : tv F G n σ a = .ret false) (hb : tv F G n σ b = .ret false) : tv F G (n + 1) σ (.orE [a, b]) = .ret false := by
  rw [tv, chainT, ha, chainT, hb]; rfl
theorem tv_or3 {F : Nat → List V → Tree V} {G : Nat → Int} {n : Nat} {σ : Env} {a b c : X} (ha : tv F G n σ a = .ret false) (hb : tv F G n σ b = .ret false) (hc : tv F G n σ c = .ret false) : tv F G (n + 1) σ (.orE [a, b, c]) = .ret false := by
  rw [tv, chainT, ha, chainT, hb, chainT, hc]; rfl
theorem tv_not {F : Nat → List V → Tree V} {G : Nat → Int} {n : Nat} {σ : Env} {a : X} {b : Bool} (ha : tv F G n σ a = .ret b) : tv F G (n + 1) σ (.notE a) = .ret (!b) := by
  rw [tv, ha]; rfl
theorem tv_call {F : Nat → List V → Tree V} {G : Nat → Int} {n f : Nat} {σ : Env} {args : List X} {b : Bool} (h : ev F G n σ (.call f args) = .ret (.bool b)) : tv F G (n + 1) σ (.call f args) = .ret b := by
  simp only [tv, h]; rfl
theorem cmp_ne_bool {a b : Bool} (h : a = b) : cmpV .NotEq (.bool a) (.bool b) = .ret false := by subst h; cases a <;> rfl
theorem cmp_ne_pair (a b : Int) : cmpV .NotEq (.tup [.int a, .int b]) (.tup [.int a, .int b]) = .ret false := by rw [cv_ne, eq_pair_self]; rfl
theorem cmp_eq_nil (xs : List Int) : cmpV .Eq (.list (xs.map .int)) (.list []) = .ret (decide (xs = [])) := by
  rw [cv_eq, eqv_list, ints_map]; rfl
theorem cmp_ne_nil (xs : List Int) : cmpV .NotEq (.list (xs.map .int)) (.list []) = .ret (!decide (xs = [])) := by
  rw [cv_ne, eqv_list, ints_map]; rfl
/-- what meet gives, held against the common members -/
theorem meet_right (w1 : Tn v1 m1) (w2 : Tn v2 m2) : ∃ u, FT 41 [.tnum v1 m1, .tnum v2 m2] = .ret u ∧ ∀ (n : Nat) (σ : Env), get σ 44 = some (.list ((common v1 m1 v2 m2).map .int)) → get σ 10 = some u →
    tv FT GT (n + 5) σ (.orE [(.cmp .NotEq (.isNone (.var 10)) (.cmp .Eq (.var 44) (.list []))), (.andE [(.cmp .NotEq (.var 44) (.list [])), (.cmp .NotEq (.meth 28 (.var 10) []) (.call 57 [(.var 44)]))])]) = .ret false := by
  by_cases h : band (bxor v1 v2) (bxor M64 (bor m1 m2)) = 0
  · obtain ⟨hne, b1, b2⟩ := best_meet w1 w2 h
    refine ⟨wo (bor v1 v2) (band m1 m2), by show dMeet [.tnum v1 m1, .tnum v2 m2] = _; rw [dMeet, if_pos h], fun n σ h44 h10 => ?_⟩
    rw [wo_is] at h10
    refine tv_or2 (tv_cmp (a := .bool false) (b := .bool false) (by rw [ev, ev_varOf h10]; rfl) (ev_cmp (ev_varOf h44) (b := .list []) rfl (by rw [cmp_eq_nil, decide_eq_false hne])) rfl) ?_
    rw [tv, chainT, tv_cmp (ev_varOf h44) (b := .list []) rfl (cmp_ne_nil _), decide_eq_false hne, chainT, chainT]
    have e1 : ev FT GT (n + 2) σ (.meth 28 (.var 10) []) = .ret (.tup [.int (woV (bor v1 v2) (band m1 m2)), .int (band m1 m2 % B64)]) := by rw [ev, ev_varOf h10]; rfl
    have e2 : ev FT GT (n + 2) σ (.call 57 [(.var 44)]) = .ret (.tup [.int (woV (bor v1 v2) (band m1 m2)), .int (band m1 m2 % B64)]) := by
      rw [ev, evL, evL, ev_varOf h44]
      dsimp only [Tree.bind]
      rw [best_of hne, b2, b1]
    rw [tv_cmp e1 e2 (cmp_ne_pair _ _)]; rfl
  · have hnil := meet_none w1 w2 h
    refine ⟨.none, by show dMeet [.tnum v1 m1, .tnum v2 m2] = _; rw [dMeet, if_neg h], fun n σ h44 h10 => ?_⟩
    rw [hnil] at h44
    refine tv_or2 (tv_cmp (a := .bool true) (b := .bool true) (by rw [ev, ev_varOf h10]; rfl) (ev_cmp (ev_varOf h44) (b := .list []) rfl rfl) rfl) ?_
    rw [tv, chainT, tv_cmp (ev_varOf h44) (b := .list []) rfl rfl]; rfl
end
end Mine

set_option autoImplicit false
namespace Mine
open PySem
set_option maxRecDepth 10000
set_option linter.unusedSimpArgs false

noncomputable abbrev Row := Int × Int × List Int
section
variable (v1 m1 v2 m2 : Int)
noncomputable def rAdd : Row := (addV v1 m1 v2 m2, addM v1 m1 v2 m2, two2 v1 m1 v2 m2 fun x y => (x + y) % B64)
noncomputable def rSub : Row := (woV (v1 - v2) (bor (bor (bxor (v1 - v2 + m1) (v1 - v2 - m2)) m1) m2), bor (bor (bxor (v1 - v2 + m1) (v1 - v2 - m2)) m1) m2 % B64, two2 v1 m1 v2 m2 fun x y => (x - y) % B64)
noncomputable def rAnd : Row := (woV (band v1 v2) (band (band (bor v1 m1) (bor v2 m2)) (bxor M64 (band v1 v2))), band (band (bor v1 m1) (bor v2 m2)) (bxor M64 (band v1 v2)) % B64, two2 v1 m1 v2 m2 band)
noncomputable def rOr : Row := (bor v1 v2, band (bor m1 m2) (bxor M64 (bor v1 v2)), two2 v1 m1 v2 m2 bor)
noncomputable def rXor : Row := (woV (bxor v1 v2) (bor m1 m2), bor m1 m2 % B64, two2 v1 m1 v2 m2 bxor)
noncomputable def rJoin : Row := (woV v1 (bor (bor m1 m2) (bxor v1 v2)), bor (bor m1 m2) (bxor v1 v2) % B64, mems v1 m1 ++ mems v2 m2)
noncomputable def rWith : Row := (v1 - v1 % 4294967296 + v2 % 4294967296, m1 - m1 % 4294967296 + m2 % 4294967296, two2 v1 m1 v2 m2 fun x y => x - x % 4294967296 + y % 4294967296)
noncomputable def twoRows : List Row := [rAdd v1 m1 v2 m2, rSub v1 m1 v2 m2, rAnd v1 m1 v2 m2, rOr v1 m1 v2 m2, rXor v1 m1 v2 m2, rJoin v1 m1 v2 m2, rWith v1 m1 v2 m2]
end
section
variable {v1 m1 v2 m2 : Int}
theorem two_rows_right (h1 : Tn v1 m1) (h2 : Tn v2 m2) : ∀ r ∈ twoRows v1 m1 v2 m2, Right r := by
  intro r hr
  simp only [twoRows, List.mem_cons, List.not_mem_nil, or_false] at hr
  rcases hr with rfl | rfl | rfl | rfl | rfl | rfl | rfl
  · exact right2 h1 h2 (add_op h1 h2)
  · exact right2 h1 h2 (sub_op h1 h2)
  · exact right2 h1 h2 (and_op h1 h2)
  · exact right2 h1 h2 (or_op h1 h2)
  · exact right2 h1 h2 (xor_op h1 h2)
  · exact ⟨by show mems v1 m1 ++ mems v2 m2 ≠ []; simp [mems_ne], best_join h1 h2⟩
  · exact right2 h1 h2 (with_op h1 h2)
theorem two_call' {n : Nat} {σ : Env} (E : TwoE v1 m1 v2 m2 σ) {g : Nat} {t : Tree V} (hop : FT g [.tnum v1 m1, .tnum v2 m2] = t) : ev FT GT (n + 2) σ (.call g [.var 38, .var 48]) = t := by
  rw [ev, evL, evL, evL, ev, E.g38, ev, E.g48]
  dsimp only [optT, Tree.bind]
  exact hop
theorem two_mul {n : Nat} {σ : Env} {gl : List Nat} {V' M : Int} (h1 : Tn v1 m1) (E : TwoE v1 m1 v2 m2 σ) (h43 : get σ 43 = some (.tnum V' M)) (hm : ∀ x ∈ mems v1 m1, ∀ y ∈ mems v2 m2, x * y % B64 - band (x * y % B64) M = V') :
    ev FT GT (n + 8) σ (.call 6 [(.comp (.meth 20 (.var 43) [(.bin .Mod (.bin .Mult (.var 45) (.var 46)) (.call 49 []))]) true [45, 46] (.var 41) Option.none [43] gl)]) = .ret (.bool true) := by
  have h3 : only σ [43] = [(43, .tnum V' M)] := by rw [only, h43]; rfl
  have hc := ev_compP (F := FT) (G := GT) (n := n + 6) (σ := σ) (elt := .meth 20 (.var 43) [(.bin .Mod (.bin .Mult (.var 45) (.var 46)) (.call 49 []))]) (src := .var 41) (t := 45) (u := 46) (cap := [43]) (gl := gl) (xs := prs (mems v1 m1) (mems v2 m2)) (fun _ => .bool true) (by rw [bound, List.all_cons, h43]; rfl) (ev_varOf E.g41) fun p hp => by
    obtain ⟨px, py⟩ := mem_prs.mp hp
    rw [h3]
    have wx := ((mem_mems h1).mp px).1
    have e1 : ev FT GT (n + 5) (set (set [(43, .tnum V' M)] 45 (.int p.1)) 46 (.int p.2)) (.bin .Mod (.bin .Mult (.var 45) (.var 46)) (.call 49 [])) = .ret (.int (p.1 * p.2 % B64)) :=
      ev_bin (ev_bin (a := .int p.1) (b := .int p.2) (v := .int (p.1 * p.2)) rfl rfl (by simp only [ov_add, ov_app, ov_sub, ov_mul, ov_div, ov_mod, ov_pow, ov_shl, ov_shr, ov_and, ov_or, ov_xor]; rw [guard_true (by rw [small_of wx]; rfl)])) (b := .int B64) rfl (by simp only [ov_add, ov_app, ov_sub, ov_mul, ov_div, ov_mod, ov_pow, ov_shl, ov_shr, ov_and, ov_or, ov_xor]; rw [guardB, fmodB])
    rw [ev, evL, e1, evL, ev]
    rw [show get (set (set [(43, V.tnum V' M)] 45 (.int p.1)) 46 (.int p.2)) 43 = some (.tnum V' M) from rfl]
    dsimp only [optT, Tree.bind]
    show Tree.ret (V.bool (p.1 * p.2 % B64 - band (p.1 * p.2 % B64) M == V')) = _
    rw [hm _ px _ py, beq_self_eq_true]
  rw [ev, evL, evL, hc]
  exact all_true _
end
theorem sim_law_two_right (us : List V) (pn : Pn) (K : Pn → V → Prop) (h : (dTwoRight us).All pn K) : us.length = 4 ∧ (runB FT GT 30 b_law_two_right ([38, 48, 49, 50].zip us)).All pn (Weak K) := by
  unfold dTwoRight at h
  split at h
  · rename_i v1 m1 v2 m2 a b
    obtain ⟨⟨w1, w2, ea, eb⟩, h'⟩ := need_all h
    obtain ⟨n, rfl, hn, hk⟩ := any_all h'
    clear h h'
    subst ea eb
    have hk : K (.upto n) (.bool true) := by
      have := hk (.bool true) rfl
      simp only [Tree.All, Tree.upN, Tree.knP] at this
      exact this
    refine ⟨rfl, ?_⟩
    have h1 := w1.tn
    have h2 := w2.tn
    generalize hσ : List.zip _ _ = σ
    have f38 : get σ 38 = some (.tnum v1 m1) := by rw [← hσ]; rfl
    have f48 : get σ 48 = some (.tnum v2 m2) := by rw [← hσ]; rfl
    have f49 : get σ 49 = some (.list ((mems v1 m1).map .int)) := by rw [← hσ]; rfl
    have f50 : get σ 50 = some (.list ((mems v2 m2).map .int)) := by rw [← hσ]; rfl
    have l1 := mems_few w1
    have l2 := mems_few w2
    refine all_def ?_
    unfold b_law_two_right
    refine st_assign (v := .list ((prs (mems v1 m1) (mems v2 m2)).map fun p => .tup [.int p.1, .int p.2])) (ev_comp2 (fun x y => .tup [.int x, .int y]) (by rw [bound, List.all_cons, f50]; rfl) (ev_varOf f49) (by omega) (by omega)
      (fun x _ => ev_varOf (by rw [get_set, if_neg (by decide), only, f50]; rfl)) (fun x _ y _ => ev_tup2 (ev_varOf (get_ne rfl get_eq)) (ev_varOf (get_eq)))) ?_
    have E : TwoE v1 m1 v2 m2 (set σ 41 (.list ((prs (mems v1 m1) (mems v2 m2)).map fun p => .tup [.int p.1, .int p.2]))) :=
      ⟨get_ne rfl f38, get_ne rfl f48, get_ne rfl f49, get_ne rfl f50, get_eq⟩
    generalize set σ 41 (.list ((prs (mems v1 m1) (mems v2 m2)).map fun p => .tup [.int p.1, .int p.2])) = σ₁ at E ⊢
    refine st_own (vs := [rowV (rAdd v1 m1 v2 m2)]) (ev_list1 (two_row E _ rfl (elt_add _))) rfl rfl ?_
    have E := E.del (i := 42) rfl
    generalize del σ₁ 42 = σ₂ at E ⊢
    refine st_append (two_row E _ rfl (elt_sub _)) rfl (by simp) ?_
    refine st_freeze rfl ?_
    show (exB FT GT 26 ⟨set σ₂ 42 (.list [rowV (rAdd v1 m1 v2 m2), rowV (rSub v1 m1 v2 m2)]), Option.none⟩ _).All (.upto n) _
    have E := E.set (i := 42) rfl (.list [rowV (rAdd v1 m1 v2 m2), rowV (rSub v1 m1 v2 m2)])
    have g42 : get (set σ₂ 42 (.list [rowV (rAdd v1 m1 v2 m2), rowV (rSub v1 m1 v2 m2)])) 42 = some (.list [rowV (rAdd v1 m1 v2 m2), rowV (rSub v1 m1 v2 m2)]) := get_eq
    generalize set σ₂ 42 (.list [rowV (rAdd v1 m1 v2 m2), rowV (rSub v1 m1 v2 m2)]) = σ₃ at E g42 ⊢
    refine st_own (vs := [rowV (rAdd v1 m1 v2 m2), rowV (rSub v1 m1 v2 m2), rowV (rAnd v1 m1 v2 m2), rowV (rOr v1 m1 v2 m2)]) (ev_join (ev_varOf g42) (ev_list2 (two_row E band rfl fun x y => rfl) (two_row E bor rfl fun x y => rfl)) (by simp)) rfl rfl ?_
    refine st_freeze rfl ?_
    show (exB FT GT 24 ⟨set (del σ₃ 42) 42 (.list [rowV (rAdd v1 m1 v2 m2), rowV (rSub v1 m1 v2 m2), rowV (rAnd v1 m1 v2 m2), rowV (rOr v1 m1 v2 m2)]), Option.none⟩ _).All (.upto n) _
    have E := (E.del (i := 42) rfl).set (i := 42) rfl (.list [rowV (rAdd v1 m1 v2 m2), rowV (rSub v1 m1 v2 m2), rowV (rAnd v1 m1 v2 m2), rowV (rOr v1 m1 v2 m2)])
    have g42 : get (set (del σ₃ 42) 42 (.list [rowV (rAdd v1 m1 v2 m2), rowV (rSub v1 m1 v2 m2), rowV (rAnd v1 m1 v2 m2), rowV (rOr v1 m1 v2 m2)])) 42 = some (.list [rowV (rAdd v1 m1 v2 m2), rowV (rSub v1 m1 v2 m2), rowV (rAnd v1 m1 v2 m2), rowV (rOr v1 m1 v2 m2)]) := get_eq
    generalize set (del σ₃ 42) 42 (.list [rowV (rAdd v1 m1 v2 m2), rowV (rSub v1 m1 v2 m2), rowV (rAnd v1 m1 v2 m2), rowV (rOr v1 m1 v2 m2)]) = σ₄ at E g42 ⊢
    refine st_own (vs := [rowV (rAdd v1 m1 v2 m2), rowV (rSub v1 m1 v2 m2), rowV (rAnd v1 m1 v2 m2), rowV (rOr v1 m1 v2 m2), rowV (rXor v1 m1 v2 m2), rowV (rJoin v1 m1 v2 m2)]) (ev_join (ev_varOf g42) (ev_list2 (two_row E bxor rfl fun x y => rfl) (ev_tup2 (v := .list ((mems v1 m1 ++ mems v2 m2).map .int)) (two_call E rfl) ?_)) (by simp)) rfl rfl ?_
    · rw [ev_join (ev_varOf E.g49) (ev_varOf E.g50) (by simp only [List.length_map]; omega), List.map_append]
    have E := E.del (i := 42) rfl
    generalize del σ₄ 42 = σ₅ at E ⊢
    refine st_append (two_row E _ rfl (elt_with _)) rfl (by simp) ?_
    refine st_freeze rfl ?_
    have g42 : get (set σ₅ 42 (.list ((twoRows v1 m1 v2 m2).map rowV))) 42 = some (.list ((twoRows v1 m1 v2 m2).map rowV)) := get_eq
    have E := E.set (i := 42) rfl (.list ((twoRows v1 m1 v2 m2).map rowV))
    show (exB FT GT 21 ⟨set σ₅ 42 (.list ((twoRows v1 m1 v2 m2).map rowV)), Option.none⟩ _).All (.upto n) _
    generalize set σ₅ 42 (.list ((twoRows v1 m1 v2 m2).map rowV)) = σ₆ at E g42 ⊢
    refine st_if (tv_not (b := true) (tv_call (rows_right (two_rows_right h1 h2) g42))) ?_
    obtain ⟨u, hu, hmeet⟩ := meet_right h1 h2
    refine st_assignT (vs := [.list ((common v1 m1 v2 m2).map .int), u]) (by rw [evL, two_comm E, evL, two_call E hu]; rfl) rfl ?_
    have g44 : get (set (set σ₆ 44 (.list ((common v1 m1 v2 m2).map .int))) 10 u) 44 = some (.list ((common v1 m1 v2 m2).map .int)) := get_ne rfl get_eq
    have g10 : get (set (set σ₆ 44 (.list ((common v1 m1 v2 m2).map .int))) 10 u) 10 = some u := get_eq
    have E := (E.set (i := 44) rfl (.list ((common v1 m1 v2 m2).map .int))).set (i := 10) rfl u
    generalize set (set σ₆ 44 (.list ((common v1 m1 v2 m2).map .int))) 10 u = σ₇ at E g44 g10 ⊢
    refine st_if (hmeet _ _ g44 g10) ?_
    have hwi : (bor m1 m2 == m2 && v1 - band v1 m2 == v2) = decide (((common v1 m1 v2 m2).length : Int) = ((mems v1 m1).length : Int)) := by
      have := within_iff h1 h2
      rw [Bool.eq_iff_iff, Bool.and_eq_true, beq_iff_eq, beq_iff_eq, this, decide_eq_true_eq]
      omega
    refine st_if (tv_cmp (two_call E (v := .bool (bor m1 m2 == m2 && v1 - band v1 m2 == v2)) rfl) (b := .bool (decide (((common v1 m1 v2 m2).length : Int) = ((mems v1 m1).length : Int)))) (ev_cmp (a := .int ((common v1 m1 v2 m2).length : Int)) (b := .int ((mems v1 m1).length : Int)) ?_ ?_ ?_) (cmp_ne_bool hwi)) ?_
    · rw [ev, evL, evL, ev_varOf g44]
      show Tree.ret (V.int _) = _
      rw [List.length_map]
    · rw [ev, evL, evL, ev_varOf E.g49]
      show Tree.ret (V.int _) = _
      rw [List.length_map]
    · rfl
    have hmul : FT 40 [.tnum v1 m1, .tnum v2 m2] = .any 0 (fun r => ∃ v m, r = .tnum v m ∧ Word v ∧ Word m ∧ band v m = 0 ∧ ∀ x ∈ mems v1 m1, ∀ y ∈ mems v2 m2, x * y % B64 - band (x * y % B64) m = v) .ret := by
      show dMul [.tnum v1 m1, .tnum v2 m2] = _
      rw [dMul]
      unfold need
      rw [if_pos ⟨w1, w2⟩]
    refine st_assignD ?_
    rw [two_call' E hmul]
    refine ⟨by omega, fun r hr => ?_⟩
    obtain ⟨V', M, rfl, wV, wM, hap, hmm⟩ := hr
    have g43 : get (set σ₇ 43 (.tnum V' M)) 43 = some (.tnum V' M) := get_eq
    have E := E.set (i := 43) rfl (.tnum V' M)
    show (exB FT GT 16 ⟨set σ₇ 43 (.tnum V' M), Option.none⟩ _).All (.upto n) _
    generalize set σ₇ 43 (.tnum V' M) = σ₈ at E g43 ⊢
    have ev43 : ∀ k, ev FT GT (k + 2) σ₈ (.value (.var 43)) = .ret (.int V') := fun k => by rw [ev, ev_varOf g43]; rfl
    have em43 : ∀ k, ev FT GT (k + 2) σ₈ (.mask (.var 43)) = .ret (.int M) := fun k => by rw [ev, ev_varOf g43]; rfl
    have rng : ∀ (k : Nat) (e : X) (z : Int), Word z → ev FT GT (k + 2) σ₈ e = .ret (.int z) → tv FT GT (k + 3) σ₈ (.cmp2 .LtE (.int 0) e .Lt (.call 49 [])) = .ret true := fun k e z hz he => by
      rw [tv, he, show ev FT GT (k + 2) σ₈ (.int 0) = .ret (.int 0) from rfl, show ev FT GT (k + 2) σ₈ (.call 49 []) = .ret (.int B64) from rfl]
      dsimp only [Tree.bind]
      rw [show cmpV .LtE (.int 0) (.int z) = .ret (decide (0 ≤ z)) from rfl, decide_eq_true hz.1]
      dsimp only [Tree.bind]
      rw [show cmpV .Lt (.int z) (.int B64) = .ret (decide (z < B64)) from rfl, decide_eq_true hz.2]
    refine st_if (tv_or3 (tv_cmp (ev_bin (ev43 _) (em43 _) (v := .int 0) (by simp only [ov_add, ov_app, ov_sub, ov_mul, ov_div, ov_mod, ov_pow, ov_shl, ov_shr, ov_and, ov_or, ov_xor]; rw [show Builtin.bitAnd V' M = 0 from hap])) (b := .int 0) rfl rfl) (tv_not (b := true) (rng _ _ _ wV (ev43 _))) (tv_not (b := true) (rng _ _ _ wM (em43 _)))) ?_
    exact st_ret (two_mul h1 E g43 hmm) (.inl hk)
  · simp only [Tree.All, Tree.upN, Tree.knP] at h
end Mine

set_option autoImplicit false
namespace Mine
open PySem
set_option maxRecDepth 10000
set_option linter.unusedSimpArgs false

theorem ev_pick {n k : Nat} {σ : Env} {e : X} {xs : List V} {K : Pn → V → Prop} (h : get σ 29 = some .pen) (he : ev FT GT (n + 1) σ e = .ret (.list xs)) (hne : xs ≠ []) (hl : xs.length < 1000) (hk : k + 1 ≤ 1000) (H : ∀ v ∈ xs, K (.upto (k + 1)) v) : (ev FT GT (n + 2) σ (.call 53 [(.var 29), e])).All (.upto k) K := by
  have e1 : ev FT GT (n + 2) σ (.call 53 [(.var 29), e]) = .any 1 (fun v => v ∈ xs) .ret := by
    rw [ev, evL, ev_varOf h, evL, he, evL]
    show dPick [.pen, .list xs] = _
    rw [dPick]
    unfold need
    rw [if_pos ⟨hne, hl⟩]
  rw [e1]
  exact ⟨hk, H⟩
theorem ev_worth {n k : Nat} {σ : Env} {K : Pn → V → Prop} (h : get σ 29 = some .pen) (hk : k + 6 ≤ 1000) (H : ∀ w, Wd 64 w → K (.upto (k + 6)) (.int w)) : (ev FT GT (n + 2) σ (.call 54 [(.var 29)])).All (.upto k) K := by
  have e1 : ev FT GT (n + 2) σ (.call 54 [(.var 29)]) = .any 6 (fun v => ∃ w, v = .int w ∧ Word w) .ret := by
    rw [ev, evL, ev_varOf h, evL]; rfl
  rw [e1]
  refine ⟨hk, fun v hv => ?_⟩
  obtain ⟨w, rfl, hw⟩ := hv
  exact H w (wd_of hw)
theorem short_pow {n : Nat} (h : n < 64) : ((2 : Int) ^ n != 0 && short (2 ^ n)) = true := by
  have hw := wd_pow h
  have hp := pow_pos2 n
  have h2 := hw.2
  have h1 : ((2 : Int) ^ n != 0) = true := by simp only [bne_iff_ne, ne_eq]; omega
  have h3 : short ((2 : Int) ^ n) = true := by
    simp only [short, decide_eq_true_eq]
    have e1 : (2 : Int) ^ 64 = 18446744073709551616 := by decide
    have e2 : (18446744073709551616 : Nat) < 2 ^ 300 := by decide +kernel
    generalize (2 : Nat) ^ 300 = B at e2 ⊢
    omega
  rw [h1, h3]; rfl

structure OneE (v m : Int) (c d w z : Nat) (σ : Env) : Prop where
  g38 : get σ 38 = some (.tnum v m)
  g31 : get σ 31 = some (.list ((mems v m).map .int))
  g3 : get σ 3 = some (.int (c : Int))
  g51 : get σ 51 = some (.int (d : Int))
  g9 : get σ 9 = some (.int (w : Int))
  g0 : get σ 0 = some (.int (z : Int))
noncomputable def oneFree (i : Nat) : Bool := !Nat.beq i 38 && !Nat.beq i 31 && !Nat.beq i 3 && !Nat.beq i 51 && !Nat.beq i 9 && !Nat.beq i 0
section
variable {v m : Int} {c d w z : Nat}
theorem OneE.set {σ : Env} (E : OneE v m c d w z σ) {i : Nat} (h : oneFree i = true) (u : V) : OneE v m c d w z (set σ i u) := by
  simp only [oneFree, Bool.and_eq_true] at h
  obtain ⟨⟨⟨⟨⟨a1, a2⟩, a3⟩, a4⟩, a5⟩, a6⟩ := h
  exact ⟨get_ne a1 E.g38, get_ne a2 E.g31, get_ne a3 E.g3, get_ne a4 E.g51, get_ne a5 E.g9, get_ne a6 E.g0⟩
theorem OneE.del {σ : Env} (E : OneE v m c d w z σ) {i : Nat} (h : oneFree i = true) : OneE v m c d w z (del σ i) := by
  simp only [oneFree, Bool.and_eq_true] at h
  obtain ⟨⟨⟨⟨⟨a1, a2⟩, a3⟩, a4⟩, a5⟩, a6⟩ := h
  exact ⟨del_ne a1 E.g38, del_ne a2 E.g31, del_ne a3 E.g3, del_ne a4 E.g51, del_ne a5 E.g9, del_ne a6 E.g0⟩
theorem right1 {f : Int → Int} {V' M : Int} (h : Tn v m) (o : Op1 f v m V' M) : Right (V', M, (mems v m).map f) :=
  ⟨by simpa using mems_ne v m, (best1 h o).1, (best1 h o).2⟩
theorem one_row {n : Nat} {σ : Env} (h : Tn v m) (E : OneE v m c d w z σ) {op elt : X} {cap gl : List Nat} {V' M : Int} (f : Int → Int) (hop : ev FT GT (n + 2) σ op = .ret (.tnum V' M)) (hb : bound σ cap = true)
    (helt : ∀ x, Wd 64 x → ev FT GT (n + 1) (set (only σ cap) 45 (.int x)) elt = .ret (.int (f x))) : ev FT GT (n + 3) σ (.tup [op, .comp elt false [45] (.var 31) Option.none cap gl]) = .ret (rowV (V', M, (mems v m).map f)) := by
  refine ev_tup2 hop ?_
  rw [ev_compI (F := FT) (G := GT) (n := n + 1) (σ := σ) (elt := elt) (src := .var 31) (t := 45) (cap := cap) (gl := gl) (xs := mems v m) (fun x => .int (f x)) hb (ev_varOf E.g31) fun x hx => helt x ((mem_mems h).mp hx).1]
  dsimp only
  rw [List.map_map]; rfl
theorem one_call {n : Nat} {σ : Env} (E : OneE v m c d w z σ) {g : Nat} {u : V} (hop : FT g [.tnum v m] = .ret u) : ev FT GT (n + 2) σ (.call g [.var 38]) = .ret u := by
  rw [ev, evL, evL, ev_varOf E.g38]; exact hop
theorem one_call2 {n i : Nat} {k : Int} {σ : Env} (E : OneE v m c d w z σ) {g : Nat} {u : V} (hi : get σ i = some (.int k)) (hop : FT g [.tnum v m, .int k] = .ret u) : ev FT GT (n + 2) σ (.call g [.var 38, .var i]) = .ret u := by
  rw [ev, evL, evL, evL, ev_varOf E.g38, ev_varOf hi]; exact hop
theorem pow_ev {n i k : Nat} {σ : Env} (hi : get σ i = some (.int (k : Int))) (hk : k < 64) : ev FT GT (n + 2) σ (.bin .Pow (.int 2) (.var i)) = .ret (.int (2 ^ k)) :=
  ev_bin (a := .int 2) rfl (ev_varOf hi) (by simp only [ov_add, ov_app, ov_sub, ov_mul, ov_div, ov_mod, ov_pow, ov_shl, ov_shr, ov_and, ov_or, ov_xor]; rw [guard_true (shl_ok (by omega) (by omega) (by decide)), Int.toNat_natCast])
theorem cntN (h : c < 64) : cnt (c : Int) = true := by simp only [cnt, Bool.and_eq_true, decide_eq_true_eq]; omega
theorem sizeN {k : Nat} (h1 : 1 ≤ k) (h : k ≤ 64) : size1 (k : Int) = true := by simp only [size1, Bool.and_eq_true, decide_eq_true_eq]; omega
theorem div_pow (x : Int) {k : Nat} (hk : k < 64) : opV .FloorDiv (.int x) (.int (2 ^ k)) = .ret (.int (x / 2 ^ k)) := by
  simp only [ov_add, ov_app, ov_sub, ov_mul, ov_div, ov_mod, ov_pow, ov_shl, ov_shr, ov_and, ov_or, ov_xor]; rw [guard_true (short_pow hk), fdiv_pow]
theorem modB (x : Int) : opV .Mod (.int x) (.int B64) = .ret (.int (x % B64)) := by simp only [ov_add, ov_app, ov_sub, ov_mul, ov_div, ov_mod, ov_pow, ov_shl, ov_shr, ov_and, ov_or, ov_xor]; rw [guardB, fmodB]
theorem modH (x : Int) : opV .Mod (.int x) (.int 4294967296) = .ret (.int (x % 4294967296)) := by simp only [ov_add, ov_app, ov_sub, ov_mul, ov_div, ov_mod, ov_pow, ov_shl, ov_shr, ov_and, ov_or, ov_xor]; rw [guardH, fmodH]
theorem signed_of (x : Int) {k : Nat} (h1 : 1 ≤ k) (h : k ≤ 64) : FT 58 [.int x, .int (k : Int)] = .ret (.int (sg x k)) := by
  show dSigned [.int x, .int (k : Int)] = _
  rw [dSigned, guard_true (sizeN h1 h), Int.toNat_natCast]
theorem call_all {n : Nat} {σ : Env} : ev FT GT (n + 1) σ (.call 49 []) = .ret (.int B64) := rfl
theorem call_half {n : Nat} {σ : Env} : ev FT GT (n + 1) σ (.call 50 []) = .ret (.int 4294967296) := rfl
theorem only1 {σ : Env} {i : Nat} {u : V} (h : get σ i = some u) : only σ [i] = [(i, u)] := by rw [only, h]; rfl
theorem bound1 {σ : Env} {i : Nat} {u : V} (h : get σ i = some u) : bound σ [i] = true := by rw [bound, List.all_cons, h]; rfl
theorem var45 {n i : Nat} {u : V} {x : Int} (h : (!Nat.beq i 45) = true) : ev FT GT (n + 1) (Mine.set [(i, u)] 45 (.int x)) (.var 45) = .ret (.int x) := ev_varOf (get_eq)
theorem varOwn {i : Nat} {u : V} {x : Int} (h : (!Nat.beq i 45) = true) : get (Mine.set [(i, u)] 45 (.int x)) i = some u := by
  rw [get_set, if_neg (fun e => ne_of_beq h e.symm), get, Nat.beq_refl]; rfl
end
section
variable (v m : Int) (c d w z : Nat)
noncomputable def qNeg : Row := (woV (0 - v) (bor (bor (bxor (0 - v + 0) (0 - v - m)) 0) m), bor (bor (bxor (0 - v + 0) (0 - v - m)) 0) m % B64, (mems v m).map fun x => (0 - x) % B64)
noncomputable def qLsh : Row := (v * 2 ^ c % B64, m * 2 ^ c % B64, (mems v m).map fun x => x * 2 ^ c % B64)
noncomputable def qRsh : Row := (v / 2 ^ c, m / 2 ^ c, (mems v m).map fun x => x / 2 ^ c)
noncomputable def qArsh : Row := (sg v 64 / 2 ^ c % B64, sg m 64 / 2 ^ c % B64, (mems v m).map fun x => sg x 64 / 2 ^ c % B64)
noncomputable def qArsh32 : Row := (sg v 32 / 2 ^ d % 4294967296, sg m 32 / 2 ^ d % 4294967296, (mems v m).map fun x => sg x 32 / 2 ^ d % 4294967296)
noncomputable def qCast : Row := (v % 256 ^ w, m % 256 ^ w, (mems v m).map fun x => x % 256 ^ w)
noncomputable def qLow : Row := (v % 4294967296, m % 4294967296, (mems v m).map fun x => x % 4294967296)
noncomputable def qSign : Row := (sg v z % B64, sg m z % B64, (mems v m).map fun x => sg x z % B64)
noncomputable def qTurn : Row := (turn v w, turn m w, (mems v m).map fun x => turn x w)
noncomputable def oneRows : List Row := [qNeg v m, qLsh v m c, qRsh v m c, qArsh v m c, qArsh32 v m d, qCast v m w, qLow v m, qSign v m z, qTurn v m w]
end
section
variable {v m : Int} {c d w z : Nat}
theorem one_rows_right (h : Tn v m) (hw : w ≤ 8) (h1 : 1 ≤ z) (hz : z ≤ 64) : ∀ r ∈ oneRows v m c d w z, Right r := by
  intro r hr
  simp only [oneRows, List.mem_cons, List.not_mem_nil, or_false] at hr
  rcases hr with rfl | rfl | rfl | rfl | rfl | rfl | rfl | rfl | rfl
  · exact right1 h (neg_op h)
  · exact right1 h (sel_op h sel_lsh)
  · exact right1 h (sel_op h sel_rsh)
  · exact right1 h (sel_op h (sel_arsh (z := 64) (by decide) (by decide)))
  · exact right1 h (sel_op h (sel_arsh (z := 32) (by decide) (by decide)))
  · have := right1 h (sel_op h (sel_low (n := 8 * w) (by omega)))
    simp only [← pow256] at this
    exact this
  · exact right1 h (sel_op h (sel_low (n := 32) (by decide)))
  · exact right1 h (sel_op h (sel_sign h1 hz))
  · obtain ⟨p, hp⟩ := sel_turn w hw
    exact right1 h (sel_op h hp)
theorem one_ops (h : Tn v m) {n : Nat} {σ : Env} (E : OneE v m c d w z σ) (hc : c < 64) (hd : d < 32) (hw : w = 1 ∨ w = 2 ∨ w = 4 ∨ w = 8) (h1 : 1 ≤ z) (hz : z ≤ 64) :
    ev FT GT (n + 2) σ (.call 32 [(.var 38)]) = .ret (.tnum (qNeg v m).1 (qNeg v m).2.1) ∧ ev FT GT (n + 2) σ (.call 36 [(.var 38), (.var 3)]) = .ret (.tnum (qLsh v m c).1 (qLsh v m c).2.1) ∧
    ev FT GT (n + 2) σ (.call 37 [(.var 38), (.var 3)]) = .ret (.tnum (qRsh v m c).1 (qRsh v m c).2.1) ∧ ev FT GT (n + 2) σ (.call 38 [(.var 38), (.var 3)]) = .ret (.tnum (qArsh v m c).1 (qArsh v m c).2.1) ∧
    ev FT GT (n + 2) σ (.call 38 [(.var 38), (.var 51), (.int 32)]) = .ret (.tnum (qArsh32 v m d).1 (qArsh32 v m d).2.1) ∧ ev FT GT (n + 2) σ (.call 44 [(.var 38), (.var 9)]) = .ret (.tnum (qCast v m w).1 (qCast v m w).2.1) ∧
    ev FT GT (n + 2) σ (.call 45 [(.var 38)]) = .ret (.tnum (qLow v m).1 (qLow v m).2.1) ∧ ev FT GT (n + 2) σ (.call 47 [(.var 38), (.var 0)]) = .ret (.tnum (qSign v m z).1 (qSign v m z).2.1) ∧
    ev FT GT (n + 2) σ (.call 48 [(.var 38), (.var 9)]) = .ret (.tnum (qTurn v m w).1 (qTurn v m w).2.1) := by
  have hwid : wid (w : Int) = true := by rcases hw with rfl | rfl | rfl | rfl <;> rfl
  refine ⟨one_call E rfl, one_call2 E E.g3 ?_, one_call2 E E.g3 ?_, one_call2 E E.g3 ?_, ?_, one_call2 E E.g9 ?_, one_call E rfl, one_call2 E E.g0 ?_, one_call2 E E.g9 ?_⟩
  · show dLsh [.tnum v m, .int (c : Int)] = _
    rw [dLsh, guard_true (by rw [cntN hc, wd_wordB h.wv, wd_wordB h.wm]; rfl), Int.toNat_natCast]; rfl
  · show dRsh [.tnum v m, .int (c : Int)] = _
    rw [dRsh, guard_true (cntN hc), Int.toNat_natCast]; rfl
  · show dArsh [.tnum v m, .int (c : Int)] = _
    rw [dArsh, guard_true (cntN hc), Int.toNat_natCast]; rfl
  · rw [ev, evL, evL, evL, evL, ev_varOf E.g38, ev_varOf E.g51]
    show dArsh [.tnum v m, .int (d : Int), .int 32] = _
    rw [dArsh, guard_true (by rw [cntN (c := d) (by omega)]; rfl), Int.toNat_natCast]; rfl
  · show dCast [.tnum v m, .int (w : Int)] = _
    rw [dCast, guard_true hwid, Int.toNat_natCast]; rfl
  · show dTSigned [.tnum v m, .int (z : Int)] = _
    rw [dTSigned, guard_true (sizeN h1 hz), Int.toNat_natCast]; rfl
  · show dTTurned [.tnum v m, .int (w : Int)] = _
    rw [dTTurned, guard_true (by rw [hwid, wd_wordB h.wv, wd_wordB h.wm]; rfl), Int.toNat_natCast]; rfl
theorem e_neg {n : Nat} {x : Int} : ev FT GT (n + 4) (set [] 45 (.int x)) (.bin .Mod (.bin .Sub (.int 0) (.var 45)) (.call 49 [])) = .ret (.int ((0 - x) % B64)) :=
  ev_bin (ev_bin (a := .int 0) (b := .int x) rfl rfl rfl) call_all (modB _)
theorem e_lsh {n : Nat} {x : Int} (hc : c < 64) (hx : Wd 64 x) : ev FT GT (n + 5) (set [(3, .int (c : Int))] 45 (.int x)) (.bin .Mod (.bin .Mult (.var 45) (.bin .Pow (.int 2) (.var 3))) (.call 49 [])) = .ret (.int (x * 2 ^ c % B64)) :=
  ev_bin (ev_bin (var45 rfl) (pow_ev (varOwn rfl) hc) (by simp only [ov_add, ov_app, ov_sub, ov_mul, ov_div, ov_mod, ov_pow, ov_shl, ov_shr, ov_and, ov_or, ov_xor]; rw [guard_true (by rw [small_of hx]; rfl)])) call_all (modB _)
theorem e_rsh {n : Nat} {x : Int} (hc : c < 64) : ev FT GT (n + 4) (set [(3, .int (c : Int))] 45 (.int x)) (.bin .FloorDiv (.var 45) (.bin .Pow (.int 2) (.var 3))) = .ret (.int (x / 2 ^ c)) :=
  ev_bin (var45 rfl) (pow_ev (varOwn rfl) hc) (div_pow _ hc)
theorem e_signed {n i k : Nat} {u : V} {x : Int} {e : X} (hi : (!Nat.beq i 45) = true) (he : ev FT GT (n + 1) (set [(i, u)] 45 (.int x)) e = .ret (.int (k : Int))) (h1 : 1 ≤ k) (h : k ≤ 64) : ev FT GT (n + 2) (set [(i, u)] 45 (.int x)) (.call 58 [(.var 45), e]) = .ret (.int (sg x k)) := by
  rw [ev, evL, evL, evL, var45 hi, he]; exact signed_of x h1 h
theorem e_arsh {n : Nat} {x : Int} (hc : c < 64) : ev FT GT (n + 5) (set [(3, .int (c : Int))] 45 (.int x)) (.bin .Mod (.bin .FloorDiv (.call 58 [(.var 45), (.int 64)]) (.bin .Pow (.int 2) (.var 3))) (.call 49 [])) = .ret (.int (sg x 64 / 2 ^ c % B64)) :=
  ev_bin (ev_bin (e_signed (k := 64) rfl rfl (by decide) (by decide)) (pow_ev (varOwn rfl) hc) (div_pow _ hc)) call_all (modB _)
theorem e_arsh32 {n : Nat} {x : Int} (hd : d < 64) : ev FT GT (n + 5) (set [(51, .int (d : Int))] 45 (.int x)) (.bin .Mod (.bin .FloorDiv (.call 58 [(.var 45), (.int 32)]) (.bin .Pow (.int 2) (.var 51))) (.call 50 [])) = .ret (.int (sg x 32 / 2 ^ d % 4294967296)) :=
  ev_bin (ev_bin (e_signed (k := 32) rfl rfl (by decide) (by decide)) (pow_ev (varOwn rfl) hd) (div_pow _ hd)) call_half (modH _)
theorem e_cast {n : Nat} {x : Int} (hw : w ≤ 8) : ev FT GT (n + 4) (set [(9, .int (w : Int))] 45 (.int x)) (.bin .Mod (.var 45) (.bin .Pow (.int 256) (.var 9))) = .ret (.int (x % 256 ^ w)) := by
  have hpp : (0 : Int) < 256 ^ w := Int.pow_pos (by decide)
  refine ev_bin (var45 rfl) (ev_bin (a := .int 256) rfl (ev_varOf (varOwn rfl)) (v := .int (256 ^ w)) (by simp only [ov_add, ov_app, ov_sub, ov_mul, ov_div, ov_mod, ov_pow, ov_shl, ov_shr, ov_and, ov_or, ov_xor]; rw [guard_true (shl_ok (by omega) (by omega) (by decide)), Int.toNat_natCast])) ?_
  simp only [ov_add, ov_app, ov_sub, ov_mul, ov_div, ov_mod, ov_pow, ov_shl, ov_shr, ov_and, ov_or, ov_xor]; rw [guard_true (by simp only [bne_iff_ne, ne_eq]; omega), Int.fmod_eq_emod_of_nonneg _ (Int.le_of_lt hpp)]
theorem e_low {n : Nat} {x : Int} : ev FT GT (n + 3) (set [] 45 (.int x)) (.bin .Mod (.var 45) (.call 50 [])) = .ret (.int (x % 4294967296)) :=
  ev_bin (a := .int x) rfl call_half (modH _)
theorem e_sign {n : Nat} {x : Int} (h1 : 1 ≤ z) (h : z ≤ 64) : ev FT GT (n + 4) (set [(0, .int (z : Int))] 45 (.int x)) (.bin .Mod (.call 58 [(.var 45), (.var 0)]) (.call 49 [])) = .ret (.int (sg x z % B64)) :=
  ev_bin (e_signed rfl (ev_varOf (varOwn rfl)) h1 h) call_all (modB _)
theorem e_turn {n : Nat} {x : Int} (hw : w = 1 ∨ w = 2 ∨ w = 4 ∨ w = 8) : ev FT GT (n + 3) (set [(9, .int (w : Int))] 45 (.int x)) (.call 59 [(.var 45), (.var 9)]) = .ret (.int (turn x w)) := by
  have hwid : wid (w : Int) = true := by rcases hw with rfl | rfl | rfl | rfl <;> rfl
  rw [ev, evL, evL, evL, var45 rfl, ev_varOf (varOwn rfl)]
  show dTurned [.int x, .int (w : Int)] = _
  rw [dTurned, guard_true hwid, Int.toNat_natCast]
end
end Mine

set_option autoImplicit false
namespace Mine
open PySem
set_option maxRecDepth 10000
set_option linter.unusedSimpArgs false

theorem sim_law_one_right (us : List V) (pn : Pn) (K : Pn → V → Prop) (h : (dOneRight us).All pn K) : us.length = 3 ∧ (runB FT GT 30 b_law_one_right ([29, 38, 31].zip us)).All pn (Weak K) := by
  unfold dOneRight at h
  split at h
  · rename_i v m a
    obtain ⟨⟨w3, ea⟩, h'⟩ := need_all h
    obtain ⟨n, rfl, hn, hk⟩ := any_all h'
    clear h h'
    subst ea
    have hk : K (.upto (n + 20)) (.bool true) := by
      have := hk (.bool true) rfl
      simp only [Tree.All, Tree.upN, Tree.knP] at this
      exact this
    refine ⟨rfl, ?_⟩
    have ht := w3.tn
    generalize hσ : List.zip _ _ = σ
    have f29 : get σ 29 = some .pen := by rw [← hσ]; rfl
    have f38 : get σ 38 = some (.tnum v m) := by rw [← hσ]; rfl
    have f31 : get σ 31 = some (.list ((mems v m).map .int)) := by rw [← hσ]; rfl
    refine all_def ?_
    unfold b_law_one_right
    refine all_seq ?_
    rw [ex, evL, evL, evL, evL, evL]
    refine Tree.all_bind_of _ _ (Tree.all_bind_of _ _ (ev_draw f29 rfl (by omega) fun c' c0 c1 => ?_))
    refine Tree.all_bind_of _ _ (Tree.all_bind_of _ _ (ev_draw f29 rfl (by omega) fun d' d0 d1 => ?_))
    refine Tree.all_bind_of _ _ (Tree.all_bind_of _ _ (ev_pick (xs := [.int 1, .int 2, .int 4, .int 8]) f29 rfl (by simp) (by simp) (by omega) fun w' hw' => ?_))
    refine Tree.all_bind_of _ _ (Tree.all_bind_of _ _ (ev_pick (xs := [.int 8, .int 16, .int 32]) f29 rfl (by simp) (by simp) (by omega) fun z' hz' => ?_))
    obtain ⟨c, rfl, hc⟩ : ∃ c : Nat, c' = (c : Int) ∧ c < 64 := ⟨c'.toNat, by omega, by omega⟩
    obtain ⟨d, rfl, hd⟩ : ∃ d : Nat, d' = (d : Int) ∧ d < 32 := ⟨d'.toNat, by omega, by omega⟩
    obtain ⟨w, rfl, hw⟩ : ∃ w : Nat, w' = .int (w : Int) ∧ (w = 1 ∨ w = 2 ∨ w = 4 ∨ w = 8) := by
      simp only [List.mem_cons, List.not_mem_nil, or_false] at hw'
      rcases hw' with rfl | rfl | rfl | rfl
      · exact ⟨1, rfl, by decide⟩
      · exact ⟨2, rfl, by decide⟩
      · exact ⟨4, rfl, by decide⟩
      · exact ⟨8, rfl, by decide⟩
    obtain ⟨z, rfl, z1, z2⟩ : ∃ z : Nat, z' = .int (z : Int) ∧ 1 ≤ z ∧ z ≤ 64 := by
      simp only [List.mem_cons, List.not_mem_nil, or_false] at hz'
      rcases hz' with rfl | rfl | rfl
      · exact ⟨8, rfl, by decide, by decide⟩
      · exact ⟨16, rfl, by decide, by decide⟩
      · exact ⟨32, rfl, by decide, by decide⟩
    refine ⟨rfl, ?_⟩
    have E : OneE v m c d w z (set (set (set (set σ 3 (.int (c : Int))) 51 (.int (d : Int))) 9 (.int (w : Int))) 0 (.int (z : Int))) :=
      ⟨by repeat (first | exact get_eq | exact f38 | refine get_ne rfl ?_), by repeat (first | exact get_eq | exact f31 | refine get_ne rfl ?_), by repeat (first | exact get_eq | refine get_ne rfl ?_), by repeat (first | exact get_eq | refine get_ne rfl ?_), by repeat (first | exact get_eq | refine get_ne rfl ?_), by repeat (first | exact get_eq | refine get_ne rfl ?_)⟩
    show (exB FT GT 29 ⟨set (set (set (set σ 3 (.int (c : Int))) 51 (.int (d : Int))) 9 (.int (w : Int))) 0 (.int (z : Int)), Option.none⟩ _).All (.upto (n + 4)) _
    generalize set (set (set (set σ 3 (.int (c : Int))) 51 (.int (d : Int))) 9 (.int (w : Int))) 0 (.int (z : Int)) = σ₁ at E ⊢
    have hops := fun (k : Nat) (σ : Env) (E : OneE v m c d w z σ) => one_ops ht (n := k) E hc hd hw z1 z2
    have w8 : w ≤ 8 := by omega
    refine st_own (vs := [rowV (qNeg v m), rowV (qLsh v m c)]) (ev_list2 (one_row ht E (cap := []) _ (hops _ _ E).1 rfl fun x hx => e_neg) (one_row ht E (cap := [3]) _ (hops _ _ E).2.1 (bound1 E.g3) fun x hx => by rw [only1 E.g3]; exact e_lsh hc hx)) rfl rfl ?_
    have E := E.del (i := 42) rfl
    generalize del σ₁ 42 = σ₂ at E ⊢
    refine st_append (one_row ht E (cap := [3]) _ (hops _ _ E).2.2.1 (bound1 E.g3) fun x hx => by rw [only1 E.g3]; exact e_rsh hc) rfl (by simp) ?_
    refine st_append (one_row ht E (cap := [3]) _ (hops _ _ E).2.2.2.1 (bound1 E.g3) fun x hx => by rw [only1 E.g3]; exact e_arsh hc) rfl (by simp) ?_
    refine st_append (one_row ht E (cap := [51]) _ (hops _ _ E).2.2.2.2.1 (bound1 E.g51) fun x hx => by rw [only1 E.g51]; exact e_arsh32 (by omega)) rfl (by simp) ?_
    refine st_freeze rfl ?_
    show (exB FT GT 24 ⟨set σ₂ 42 (.list [rowV (qNeg v m), rowV (qLsh v m c), rowV (qRsh v m c), rowV (qArsh v m c), rowV (qArsh32 v m d)]), Option.none⟩ _).All (.upto (n + 4)) _
    have g42 : get (set σ₂ 42 (.list [rowV (qNeg v m), rowV (qLsh v m c), rowV (qRsh v m c), rowV (qArsh v m c), rowV (qArsh32 v m d)])) 42 = some (.list [rowV (qNeg v m), rowV (qLsh v m c), rowV (qRsh v m c), rowV (qArsh v m c), rowV (qArsh32 v m d)]) := get_eq
    have E := E.set (i := 42) rfl (.list [rowV (qNeg v m), rowV (qLsh v m c), rowV (qRsh v m c), rowV (qArsh v m c), rowV (qArsh32 v m d)])
    generalize set σ₂ 42 (.list [rowV (qNeg v m), rowV (qLsh v m c), rowV (qRsh v m c), rowV (qArsh v m c), rowV (qArsh32 v m d)]) = σ₃ at E g42 ⊢
    refine st_own (vs := [rowV (qNeg v m), rowV (qLsh v m c), rowV (qRsh v m c), rowV (qArsh v m c), rowV (qArsh32 v m d), rowV (qCast v m w), rowV (qLow v m)]) (ev_join (ev_varOf g42) (ev_list2 (one_row ht E (cap := [9]) _ (hops _ _ E).2.2.2.2.2.1 (bound1 E.g9) fun x hx => by rw [only1 E.g9]; exact e_cast w8) (one_row ht E (cap := []) _ (hops _ _ E).2.2.2.2.2.2.1 rfl fun x hx => e_low)) (by simp)) rfl rfl ?_
    have E := E.del (i := 42) rfl
    generalize del σ₃ 42 = σ₄ at E ⊢
    refine st_append (one_row ht E (cap := [0]) _ (hops _ _ E).2.2.2.2.2.2.2.1 (bound1 E.g0) fun x hx => by rw [only1 E.g0]; exact e_sign z1 z2) rfl (by simp) ?_
    refine st_append (one_row ht E (cap := [9]) _ (hops _ _ E).2.2.2.2.2.2.2.2 (bound1 E.g9) fun x hx => by rw [only1 E.g9]; exact e_turn hw) rfl (by simp) ?_
    refine st_freeze rfl ?_
    have g42 : get (set σ₄ 42 (.list ((oneRows v m c d w z).map rowV))) 42 = some (.list ((oneRows v m c d w z).map rowV)) := get_eq
    show (exB FT GT 20 ⟨set σ₄ 42 (.list ((oneRows v m c d w z).map rowV)), Option.none⟩ _).All (.upto (n + 4)) _
    exact st_ret (rows_right (one_rows_right ht w8 z1 z2) g42) (weak_up (by omega) hk)
  · simp only [Tree.All, Tree.upN, Tree.knP] at h
end Mine

set_option autoImplicit false
namespace Mine
open PySem
set_option linter.unusedSimpArgs false

theorem foldl_min_least : ∀ (r : List Int) (x : Int), r.foldl min x ∈ x :: r ∧ ∀ y ∈ x :: r, r.foldl min x ≤ y
  | [], x => by simp
  | a :: r, x => by
    obtain ⟨h1, h2⟩ := foldl_min_least r (min x a)
    rw [List.foldl_cons]
    have hm : min x a ≤ x ∧ min x a ≤ a := by omega
    have hx := h2 (min x a) (by simp)
    refine ⟨?_, fun y hy => ?_⟩
    · rcases List.mem_cons.mp h1 with e | e
      · rw [e]
        by_cases hxa : x ≤ a
        · rw [show min x a = x by omega]; simp
        · rw [show min x a = a by omega]; simp
      · exact List.mem_cons_of_mem _ (List.mem_cons_of_mem _ e)
    · rcases List.mem_cons.mp hy with rfl | hy
      · omega
      · rcases List.mem_cons.mp hy with rfl | hy
        · omega
        · exact h2 y (List.mem_cons_of_mem _ hy)
theorem foldl_max_most : ∀ (r : List Int) (x : Int), r.foldl max x ∈ x :: r ∧ ∀ y ∈ x :: r, y ≤ r.foldl max x
  | [], x => by simp
  | a :: r, x => by
    obtain ⟨h1, h2⟩ := foldl_max_most r (max x a)
    rw [List.foldl_cons]
    have hm : x ≤ max x a ∧ a ≤ max x a := by omega
    have hx := h2 (max x a) (by simp)
    refine ⟨?_, fun y hy => ?_⟩
    · rcases List.mem_cons.mp h1 with e | e
      · rw [e]
        by_cases hxa : x ≤ a
        · rw [show max x a = a by omega]; simp
        · rw [show max x a = x by omega]; simp
      · exact List.mem_cons_of_mem _ (List.mem_cons_of_mem _ e)
    · rcases List.mem_cons.mp hy with rfl | hy
      · omega
      · rcases List.mem_cons.mp hy with rfl | hy
        · omega
        · exact h2 y (List.mem_cons_of_mem _ hy)
theorem least_is {ns : List Int} {a : Int} (h : a ∈ ns) (hl : ∀ y ∈ ns, a ≤ y) : leastOf ns = a := by
  cases ns with
  | nil => cases h
  | cons x r =>
    obtain ⟨h1, h2⟩ := foldl_min_least r x
    have := h2 a h
    have := hl _ h1
    show r.foldl min x = a
    omega
theorem most_is {ns : List Int} {a : Int} (h : a ∈ ns) (hl : ∀ y ∈ ns, y ≤ a) : mostOf ns = a := by
  cases ns with
  | nil => cases h
  | cons x r =>
    obtain ⟨h1, h2⟩ := foldl_max_most r x
    have := h2 a h
    have := hl _ h1
    show r.foldl max x = a
    omega
theorem min_call {ns : List Int} {a : Int} (h : a ∈ ns) (hl : ∀ y ∈ ns, a ≤ y) : FT 4 [.list (ns.map .int)] = .ret (.int a) := by
  have := least_is h hl
  cases ns with
  | nil => cases h
  | cons x r => show dMin [.list ((x :: r).map .int)] = _; rw [dMin, ints_map]; dsimp only; rw [this]
theorem max_call {ns : List Int} {a : Int} (h : a ∈ ns) (hl : ∀ y ∈ ns, y ≤ a) : FT 5 [.list (ns.map .int)] = .ret (.int a) := by
  have := most_is h hl
  cases ns with
  | nil => cases h
  | cons x r => show dMax [.list ((x :: r).map .int)] = _; rw [dMax, ints_map]; dsimp only; rw [this]

section
variable {v m : Int}
theorem low_le (h : Tn v m) {x : Int} (hx : Mem v m x) : v ≤ x := by
  have := sub_mod (hx.up h.ap) 64
  rwa [h.wv.same, hx.1.same] at this
theorem le_high (h : Tn v m) {x : Int} (hx : Mem v m x) : x ≤ bor v m := by
  have := sub_mod hx.down 64
  rwa [Wd.same (h.wv.bor h.wm), hx.1.same] at this
theorem sgLow_mem (h : Tn v m) (q : Int) (hq : 0 ≤ q) : Mem v m (bor v (band m q)) := ⟨h.wv.bor h.wm.band, fun k hk => by
  show tb (Builtin.bitOr v (Builtin.bitAnd m q)) k = _
  rw [tb_bor, tb_band, hk]; simp⟩
theorem tb_ends (q : Int) (k : Nat) : tb (bor v (band m q)) k = (tb v k || (tb m k && tb q k)) := by
  show tb (Builtin.bitOr v (Builtin.bitAnd m q)) k = _
  rw [tb_bor, tb_band]
theorem sg_least (h : Tn v m) {n : Nat} (hn : 1 ≤ n) {x : Int} (hx : Mem v m x) : sg (bor v (band m (2 ^ (n - 1)))) n ≤ sg x n := by
  rw [sg_small hn, sg_small hn]
  have e1 : bor v (band m (2 ^ (n - 1))) % 2 ^ (n - 1) = v % 2 ^ (n - 1) := mod_congr fun j hj => by
    rw [tb_ends, tb_pow, decide_eq_false (by omega)]; simp
  have e2 := sub_mod (hx.up h.ap) (n - 1)
  have w1 := Wd.mod (n - 1) v
  have w2 := Wd.mod (n - 1) x
  rw [e1, tb_ends, tb_pow, decide_eq_true rfl, Bool.and_true]
  have hs := hx.2 (n - 1)
  have hu := hx.up h.ap (n - 1)
  have := w1.1; have := w1.2; have := w2.1; have := w2.2
  cases qm : tb m (n - 1) with
  | true =>
    rw [Bool.or_true, if_pos rfl]
    split <;> omega
  | false =>
    rw [Bool.or_false, hs qm]
    split <;> omega
theorem sg_most (h : Tn v m) {n : Nat} (hn : 1 ≤ n) {x : Int} (hx : Mem v m x) : sg x n ≤ sg (bor v (band m (2 ^ (n - 1) - 1))) n := by
  rw [sg_small hn, sg_small hn]
  have e1 : bor v (band m (2 ^ (n - 1) - 1)) % 2 ^ (n - 1) = bor v m % 2 ^ (n - 1) := mod_congr fun j hj => by
    rw [tb_ends, tb_mask, decide_eq_true hj, Bool.and_true]
    exact (tb_bor v m j).symm
  have e2 := sub_mod hx.down (n - 1)
  have w1 := Wd.mod (n - 1) (bor v m)
  have w2 := Wd.mod (n - 1) x
  rw [e1, tb_ends, tb_mask, decide_eq_false (Nat.lt_irrefl _), Bool.and_false, Bool.or_false]
  have hu := hx.up h.ap (n - 1)
  have := w1.1; have := w1.2; have := w2.1; have := w2.2
  cases qv : tb v (n - 1) with
  | true =>
    rw [hu qv, if_pos rfl]; omega
  | false =>
    simp only [Bool.false_eq_true, if_false]
    split <;> omega
theorem aligned_iff (h : Tn v m) (k : Nat) : (band (bor v m) (2 ^ k - 1) == 0) = (mems v m).all fun x => x % 2 ^ k == 0 := by
  rw [show band (bor v m) (2 ^ k - 1) = bor v m % 2 ^ k from band_mask _ k, Bool.eq_iff_iff, beq_iff_eq, List.all_eq_true]
  constructor
  · intro e x hx
    have hx := (mem_mems h).mp hx
    have := sub_mod hx.down k
    have := (Wd.mod k x).1
    rw [beq_iff_eq]; omega
  · intro e
    have := e _ ((mem_mems h).mpr (mem_high h.wv h.wm))
    rwa [beq_iff_eq] at this
theorem const_iff (h : W3 v m) : (m == 0) = decide (((mems v m).length : Int) = 1) := by
  rw [mems_len, Bool.eq_iff_iff, beq_iff_eq, decide_eq_true_eq]
  constructor
  · rintro rfl; rw [bits_zero]; rfl
  · intro e
    have hb : (bitsOf m).length = 0 := by
      cases q : (bitsOf m).length with
      | zero => rfl
      | succ k =>
        rw [q, Nat.pow_succ] at e
        have := Nat.two_pow_pos k
        omega
    have hnil := List.eq_nil_of_length_eq_zero hb
    refine Wd.ext h.tn.wm (y := 0) ⟨by decide, by decide⟩ fun k hk => ?_
    rw [tb_zero]
    cases q : tb m k with
    | false => rfl
    | true =>
      have := mem_bitsOf.mpr ⟨hk, q⟩
      rw [hnil] at this; cases this

/-- the differences that are powers of two -/
noncomputable def powTest (v x : Int) : Bool := (band (x - v) (x - v - 1) == 0) && x != v
noncomputable def lone (v m : Int) : List Int := ((mems v m).filter (powTest v)).map fun x => x - v
theorem pow_of {d : Int} (hd : Wd 64 d) (h0 : d ≠ 0) (h : band d (d - 1) = 0) : ∃ p, p < 64 ∧ d = 2 ^ p ∧ tb d p = true := by
  obtain ⟨p, p64, hp, hl⟩ := low_bit hd (by have := hd.1; omega)
  refine ⟨p, p64, Wd.ext hd (wd_pow p64) fun k hk => ?_, hp⟩
  rw [tb_pow]
  by_cases e : k = p
  · subst e; rw [hp, decide_eq_true rfl]
  · rw [decide_eq_false e]
    by_cases hlt : k < p
    · exact hl k hlt
    · have hb : tb (band d (d - 1)) k = false := by rw [h, tb_zero]
      rw [show tb (band d (d - 1)) k = _ from tb_band d (d - 1) k, tb_pred hp hl, if_neg hlt, if_neg e, Bool.and_self] at hb
      exact hb
theorem mem_lone (h : Tn v m) {d : Int} : d ∈ lone v m ↔ ∃ p ∈ bitsOf m, d = 2 ^ p := by
  unfold lone
  rw [List.mem_map]
  constructor
  · rintro ⟨x, hx, rfl⟩
    obtain ⟨hx, ht⟩ := List.mem_filter.mp hx
    have hx := (mem_mems h).mp hx
    simp only [powTest, Bool.and_eq_true, beq_iff_eq, bne_iff_ne, ne_eq] at ht
    obtain ⟨p, p64, e, hp⟩ := pow_of (hx.1.sub h.wv (hx.up h.ap)) (by omega) ht.1
    refine ⟨p, mem_bitsOf.mpr ⟨p64, ?_⟩, e⟩
    rw [tb_subm (hx.up h.ap)] at hp
    cases q : tb m p with
    | true => rfl
    | false => rw [hx.2 p q] at hp; simp at hp
  · rintro ⟨p, hp, rfl⟩
    obtain ⟨p64, hp⟩ := mem_bitsOf.mp hp
    have hpp := pow_pos2 p
    refine ⟨v + 2 ^ p, List.mem_filter.mpr ⟨(mem_mems h).mpr ?_, ?_⟩, by omega⟩
    · rw [add_pow_is h.wv p64 (h.ap p hp)]; exact mem_bit h.wv p64 hp
    · have e : v + 2 ^ p - v = 2 ^ p := by omega
      simp only [powTest, e, Bool.and_eq_true, beq_iff_eq, bne_iff_ne, ne_eq]
      refine ⟨?_, by omega⟩
      rw [show band (2 ^ p) (2 ^ p - 1) = (2 : Int) ^ p % 2 ^ p from band_mask _ p, Int.emod_self]
theorem lone_nodup (h : Tn v m) : (lone v m).Nodup :=
  List.Pairwise.map _ (fun a b hab q => hab (by omega)) ((mems_nodup h).sublist List.filter_sublist)
theorem pow_lt {p q : Nat} (h : p < q) : (2 : Int) ^ p < 2 ^ q := by
  have e : q = p + (q - p - 1 + 1) := by omega
  rw [e, pow_split, Int.pow_succ]
  have h1 := pow_pos2 p
  have h2 := pow_pos2 (q - p - 1)
  have := Int.mul_le_mul_of_nonneg_left (show (2 : Int) ≤ 2 ^ (q - p - 1) * 2 by omega) (Int.le_of_lt h1)
  omega
theorem bits_lt (m : Int) : (bitsOf m).Pairwise (· < ·) := by
  rw [bits_is]; exact List.Pairwise.filter _ List.pairwise_lt_range
theorem free_right (h : Tn v m) : (lone v m).mergeSort (fun a b => decide (a ≤ b)) = (bitsOf m).map fun p => (2 : Int) ^ p := by
  have hs := List.pairwise_mergeSort (le := fun a b : Int => decide (a ≤ b)) (fun a b c x y => by simp only [decide_eq_true_eq] at x y ⊢; omega) (fun a b => by simp only [Bool.or_eq_true, decide_eq_true_eq]; omega) (lone v m)
  have hp := List.mergeSort_perm (lone v m) (fun a b => decide (a ≤ b))
  refine List.Perm.eq_of_pairwise (le := fun a b : Int => a ≤ b) (fun a b _ _ x y => by omega) (hs.imp fun x => by simpa using x) ?_ ?_
  · exact List.Pairwise.map _ (fun a b hab => Int.le_of_lt (pow_lt hab)) (bits_lt m)
  · refine hp.trans ((List.perm_ext_iff_of_nodup (lone_nodup h) ?_).mpr fun d => ?_)
    · exact List.Pairwise.map _ (fun a b hab q => by have := pow_lt hab; omega) (bits_lt m)
    · rw [mem_lone h, List.mem_map]
      exact ⟨fun ⟨p, hp, e⟩ => ⟨p, hp, e.symm⟩, fun ⟨p, hp, e⟩ => ⟨p, hp, e.symm⟩⟩
end
end Mine

set_option autoImplicit false
namespace Mine
open PySem
set_option maxRecDepth 10000
set_option linter.unusedSimpArgs false

structure EndE (v m : Int) (σ : Env) : Prop where
  g29 : get σ 29 = some .pen
  g38 : get σ 38 = some (.tnum v m)
  g31 : get σ 31 = some (.list ((mems v m).map .int))
noncomputable def endFree (i : Nat) : Bool := !Nat.beq i 29 && !Nat.beq i 38 && !Nat.beq i 31
section
variable {v m : Int}
theorem EndE.set {σ : Env} (E : EndE v m σ) {i : Nat} (h : endFree i = true) (u : V) : EndE v m (set σ i u) := by
  simp only [endFree, Bool.and_eq_true] at h
  obtain ⟨⟨a1, a2⟩, a3⟩ := h
  exact ⟨get_ne a1 E.g29, get_ne a2 E.g38, get_ne a3 E.g31⟩
theorem ev_meth {F : Nat → List V → Tree V} {G : Nat → Int} {n f : Nat} {σ : Env} {o : X} {args : List X} {a b : Int} {vs : List V} {u : V} (ho : ev F G n σ o = .ret (.tnum a b)) (ha : evL (ev F G n σ) args = .ret vs) (h : F f (.tnum a b :: vs) = .ret u) : ev F G (n + 1) σ (.meth f o args) = .ret u := by
  rw [ev, ho]
  dsimp only [Tree.bind]
  rw [ha]; exact h
theorem ev_call {F : Nat → List V → Tree V} {G : Nat → Int} {n f : Nat} {σ : Env} {args : List X} {vs : List V} {u : V} (ha : evL (ev F G n σ) args = .ret vs) (h : F f vs = .ret u) : ev F G (n + 1) σ (.call f args) = .ret u := by
  rw [ev, ha]; exact h
theorem evL_1 {f : X → Tree V} {a : X} {u : V} (h : f a = .ret u) : evL f [a] = .ret [u] := by rw [evL, h, evL]; rfl
theorem evL_2 {f : X → Tree V} {a b : X} {u w : V} (h : f a = .ret u) (g : f b = .ret w) : evL f [a, b] = .ret [u, w] := by rw [evL, h, evL, g, evL]; rfl
theorem evL_3 {f : X → Tree V} {a b c : X} {u w z : V} (h : f a = .ret u) (g : f b = .ret w) (k : f c = .ret z) : evL f [a, b, c] = .ret [u, w, z] := by rw [evL, h, evL, g, evL, k, evL]; rfl
theorem ev_tup3 {F : Nat → List V → Tree V} {G : Nat → Int} {n : Nat} {σ : Env} {a b c : X} {u w z : V} (h : ev F G n σ a = .ret u) (g : ev F G n σ b = .ret w) (k : ev F G n σ c = .ret z) : ev F G (n + 1) σ (.tup [a, b, c]) = .ret (.tup [u, w, z]) := by
  rw [ev, evL_3 h g k]; rfl
theorem cmp_ne_three (a b : Int) (c : Bool) : cmpV .NotEq (.tup [.int a, .int b, .bool c]) (.tup [.int a, .int b, .bool c]) = .ret false := by
  rw [cv_ne, show eqV (.tup [.int a, .int b, .bool c]) (.tup [.int a, .int b, .bool c]) = some (a == a && (b == b && (c == c && true))) from rfl, beq_self_eq_true, beq_self_eq_true, beq_self_eq_true]; rfl
theorem tv_meth {F : Nat → List V → Tree V} {G : Nat → Int} {n f : Nat} {σ : Env} {o : X} {args : List X} {b : Bool} (h : ev F G n σ (.meth f o args) = .ret (.bool b)) : tv F G (n + 1) σ (.meth f o args) = .ret b := by
  simp only [tv, h]; rfl
/-- the ends -/
theorem ends_1 (w : W3 v m) {n : Nat} {σ : Env} (E : EndE v m σ) : tv FT GT (n + 5) σ (.cmp .NotEq (.tup [(.meth 22 (.var 38) []), (.meth 23 (.var 38) []), (.meth 21 (.var 38) [])]) (.tup [(.call 4 [(.var 31)]), (.call 5 [(.var 31)]), (.cmp .Eq (.call 1 [(.var 31)]) (.int 1))])) = .ret false := by
  have ht := w.tn
  refine tv_cmp (a := .tup [.int v, .int (bor v m), .bool (m == 0)]) (b := .tup [.int v, .int (bor v m), .bool (m == 0)]) (ev_tup3 (ev_meth (ev_varOf E.g38) rfl rfl) (ev_meth (ev_varOf E.g38) rfl rfl) (ev_meth (ev_varOf E.g38) rfl rfl)) (ev_tup3 (ev_call (evL_1 (ev_varOf E.g31)) ?_) (ev_call (evL_1 (ev_varOf E.g31)) ?_) (ev_cmp (a := .int ((mems v m).length : Int)) (b := .int 1) (ev_call (evL_1 (ev_varOf E.g31)) ?_) rfl ?_)) (cmp_ne_three _ _ _)
  · exact min_call ((mem_mems ht).mpr (mem_low ht.wv)) fun y hy => low_le ht ((mem_mems ht).mp hy)
  · exact max_call ((mem_mems ht).mpr (mem_high ht.wv ht.wm)) fun y hy => le_high ht ((mem_mems ht).mp hy)
  · show Tree.ret (V.int _) = _
    rw [List.length_map]
  · rw [const_iff w]; rfl
/-- the ends with a sign -/
theorem ends_2 (ht : Tn v m) {z : Nat} (z1 : 1 ≤ z) (z2 : z ≤ 64) {n : Nat} {σ : Env} (E : EndE v m σ) (g0 : get σ 0 = some (.int (z : Int))) (g43 : get σ 43 = some (.list (((mems v m).map fun x => sg x z).map .int))) :
    tv FT GT (n + 5) σ (.cmp .NotEq (.tup [(.meth 24 (.var 38) [(.var 0)]), (.meth 25 (.var 38) [(.var 0)])]) (.tup [(.call 4 [(.var 43)]), (.call 5 [(.var 43)])])) = .ret false := by
  have ez : ((z : Int) - 1).toNat = z - 1 := by omega
  refine tv_cmp (ev_tup2 (u := .int (sg (bor v (band m (2 ^ (z - 1)))) z)) (v := .int (sg (bor v (band m (2 ^ (z - 1) - 1))) z)) (ev_meth (ev_varOf E.g38) (evL_1 (ev_varOf g0)) ?_) (ev_meth (ev_varOf E.g38) (evL_1 (ev_varOf g0)) ?_)) (ev_tup2 (ev_call (evL_1 (ev_varOf g43)) ?_) (ev_call (evL_1 (ev_varOf g43)) ?_)) (cmp_ne_pair _ _)
  · show dSLeast [.tnum v m, .int (z : Int)] = _
    rw [dSLeast, guard_true (sizeN z1 z2), Int.toNat_natCast, ez]
  · show dSMost [.tnum v m, .int (z : Int)] = _
    rw [dSMost, guard_true (sizeN z1 z2), Int.toNat_natCast, ez]
  · refine min_call (List.mem_map.mpr ⟨_, (mem_mems ht).mpr (sgLow_mem ht _ (Int.le_of_lt (pow_pos2 _))), rfl⟩) fun y hy => ?_
    obtain ⟨x, hx, rfl⟩ := List.mem_map.mp hy
    exact sg_least ht z1 ((mem_mems ht).mp hx)
  · refine max_call (List.mem_map.mpr ⟨_, (mem_mems ht).mpr (sgLow_mem ht _ (by have := pow_pos2 (z - 1); omega)), rfl⟩) fun y hy => ?_
    obtain ⟨x, hx, rfl⟩ := List.mem_map.mp hy
    exact sg_most ht z1 ((mem_mems ht).mp hx)
/-- the alignment -/
theorem ends_3 (ht : Tn v m) {k : Nat} (hk : k < 64) {n : Nat} {σ : Env} (E : EndE v m σ) (g9 : get σ 9 = some (.int (2 ^ k))) :
    tv FT GT (n + 6) σ (.cmp .NotEq (.meth 26 (.var 38) [(.var 9)]) (.call 6 [(.comp (.cmp .Eq (.bin .Mod (.var 45) (.var 9)) (.int 0)) false [45] (.var 31) Option.none [9] [])])) = .ret false := by
  have hpp := pow_pos2 k
  have hc := ev_compI (F := FT) (G := GT) (n := n + 3) (σ := σ) (elt := .cmp .Eq (.bin .Mod (.var 45) (.var 9)) (.int 0)) (src := .var 31) (t := 45) (cap := [9]) (gl := []) (xs := mems v m) (fun x => .bool (x % 2 ^ k == 0)) (bound1 g9) (ev_varOf E.g31) fun x hx => by
    rw [only1 g9]
    refine ev_cmp (a := .int (x % 2 ^ k)) (b := .int 0) (ev_bin (var45 rfl) (ev_varOf (varOwn rfl)) ?_) rfl rfl
    simp only [ov_add, ov_app, ov_sub, ov_mul, ov_div, ov_mod, ov_pow, ov_shl, ov_shr, ov_and, ov_or, ov_xor]; rw [guard_true (by simp only [bne_iff_ne, ne_eq]; omega), Int.fmod_eq_emod_of_nonneg _ (Int.le_of_lt hpp)]
  refine tv_cmp (a := .bool (band (bor v m) (2 ^ k - 1) == 0)) (b := .bool ((mems v m).all fun x => x % 2 ^ k == 0)) (ev_meth (ev_varOf E.g38) (evL_1 (ev_varOf g9)) rfl) (ev_call (evL_1 hc) ?_) (cmp_ne_bool (aligned_iff ht k))
  show dAll [.list _] = _
  rw [show ((mems v m).map fun x => V.bool (x % 2 ^ k == 0)) = ((mems v m).map fun x => x % 2 ^ k == 0).map V.bool by rw [List.map_map]; rfl, dAll, bools_map]
  dsimp only
  rw [List.all_map]; rfl
/-- contains -/
theorem contains_call (a : Int) : FT 20 [.tnum v m, .int a] = .ret (.bool (a - band a m == v)) := rfl
theorem ends_4 (ht : Tn v m) {s : Int} (hs : Wd 64 s) {n : Nat} {σ : Env} (E : EndE v m σ) (g52 : get σ 52 = some (.int s)) :
    tv FT GT (n + 7) σ (.orE [(.cmp .NotEq (.comp (.var 45) false [45] (.var 31) (some (.notE (.meth 20 (.var 38) [(.var 45)]))) [38] []) (.list [])), (.cmp .NotEq (.meth 20 (.var 38) [(.var 52)]) (.cmp .In (.var 52) (.var 31)))]) = .ret false := by
  have hc := ev_compF (F := FT) (G := GT) (n := n + 4) (σ := σ) (elt := .var 45) (src := .var 31) (c := .notE (.meth 20 (.var 38) [(.var 45)])) (t := 45) (cap := [38]) (gl := []) (xs := mems v m) V.int (fun _ => false) (bound1 E.g38) (ev_varOf E.g31) (fun x hx => by
    rw [only1 E.g38]
    have hx := (mem_mems ht).mp hx
    have e : (x - band x m == v) = true := by rw [beq_iff_eq]; exact (contains_iff ht hx.1).mpr hx
    refine tv_not (b := true) (tv_meth (ev_meth (ev_varOf (varOwn rfl)) (evL_1 (var45 rfl)) ?_))
    rw [contains_call, e]) (fun x hx => by rw [only1 E.g38]; exact var45 rfl)
  rw [show ((mems v m).filter fun _ => false) = [] by simp] at hc
  refine tv_or2 (tv_cmp hc (b := .list []) rfl rfl) (tv_cmp (a := .bool (s - band s m == v)) (b := .bool ((mems v m).any (· == s))) (ev_meth (ev_varOf E.g38) (evL_1 (ev_varOf g52)) rfl) (ev_cmp (ev_varOf g52) (ev_varOf E.g31) (by rw [cv_in, ints_map])) (cmp_ne_bool ?_))
  rw [Bool.eq_iff_iff, beq_iff_eq, contains_iff ht hs, List.any_eq_true, ← mem_mems ht]
  exact ⟨fun h => ⟨s, h, by simp⟩, fun ⟨y, hy, e⟩ => by rw [← beq_iff_eq.mp e]; exact hy⟩
/-- the places -/
theorem ends_5 (w : W3 v m) {n : Nat} {σ : Env} (E : EndE v m σ) : ev FT GT (n + 13) σ (.cmp .Eq (.comp (.bin .Pow (.int 2) (.var 36)) false [36] (.meth 27 (.var 38) []) Option.none [] []) (.call 9 [(.comp (.bin .Sub (.var 45) (.idx (.var 31) (.int 0))) false [45] (.var 31) (some (.andE [(.cmp .Eq (.bin .BitAnd (.bin .Sub (.var 45) (.idx (.var 31) (.int 0))) (.bin .Sub (.bin .Sub (.var 45) (.idx (.var 31) (.int 0))) (.int 1))) (.int 0)), (.cmp .NotEq (.var 45) (.idx (.var 31) (.int 0)))])) [31] [])])) = .ret (.bool true) := by
  have ht := w.tn
  have h1 : ev FT GT (n + 12) σ (.comp (.bin .Pow (.int 2) (.var 36)) false [36] (.meth 27 (.var 38) []) Option.none [] []) = .ret (.list (((bitsOf m).map fun p => (2 : Int) ^ p).map .int)) := by
    rw [ev_comp (F := FT) (G := GT) (n := n + 11) (xs := bitsOf m) (s := .list ((bitsOf m).map fun k : Nat => V.int (k : Int))) (fun k : Nat => V.int (k : Int)) (fun k => .int (2 ^ k)) rfl (ev_meth (ev_varOf E.g38) rfl (by show dFree [.tnum v m] = _; rw [dFree, guard_true (wd_wordB ht.wm)])) rfl rfl fun k hk => ⟨_, rfl, pow_ev (get_eq) (mem_bitsOf.mp hk).1⟩, List.map_map]; rfl
  obtain ⟨t, et⟩ := mems_cons v m
  have i0 : ∀ (k : Nat) (x : Int), ev FT GT (k + 2) (set [(31, .list ((mems v m).map .int))] 45 (.int x)) (.idx (.var 31) (.int 0)) = .ret (.int v) := fun k x => by
    rw [ev, ev_varOf (varOwn rfl), et]
    show nthAny (.list ((v :: t).map .int)) (.int 0) = _
    rw [List.map_cons, nthAny, nth_zero]
  have isub : ∀ (k : Nat) (x : Int), ev FT GT (k + 3) (set [(31, .list ((mems v m).map .int))] 45 (.int x)) (.bin .Sub (.var 45) (.idx (.var 31) (.int 0))) = .ret (.int (x - v)) := fun k x => ev_bin (var45 rfl) (i0 k x) rfl
  have h2 := ev_compF (F := FT) (G := GT) (n := n + 10) (σ := σ) (elt := .bin .Sub (.var 45) (.idx (.var 31) (.int 0))) (src := .var 31) (c := .andE [(.cmp .Eq (.bin .BitAnd (.bin .Sub (.var 45) (.idx (.var 31) (.int 0))) (.bin .Sub (.bin .Sub (.var 45) (.idx (.var 31) (.int 0))) (.int 1))) (.int 0)), (.cmp .NotEq (.var 45) (.idx (.var 31) (.int 0)))])
    (t := 45) (cap := [31]) (gl := []) (xs := mems v m) (fun x => .int (x - v)) (powTest v) (bound1 E.g31) (ev_varOf E.g31) (fun x hx => by
      rw [only1 E.g31, tv, chainT, chainT, tv_cmp (a := .int (band (x - v) (x - v - 1))) (b := .int 0) (ev_bin (isub _ x) (ev_bin (isub _ x) (b := .int 1) rfl rfl) rfl) rfl rfl, tv_cmp (var45 rfl) (i0 _ x) (c := !(x == v)) rfl]
      unfold powTest
      show (Tree.ret (band (x - v) (x - v - 1) == 0)).bind _ = _
      cases (band (x - v) (x - v - 1) == 0) <;> cases h : (x == v) <;> simp [Tree.bind, h, bne] <;> rfl) (fun x hx => by rw [only1 E.g31]; exact isub _ x)
  have el : ((mems v m).filter (powTest v)).map (fun x => V.int (x - v)) = (lone v m).map V.int := by unfold lone; rw [List.map_map]; rfl
  rw [el] at h2
  refine ev_cmp h1 (ev_call (evL_1 h2) (u := .list (((bitsOf m).map fun p => (2 : Int) ^ p).map .int)) ?_) ?_
  · show dSorted [.list _] = _
    rw [dSorted, ints_map]
    dsimp only
    rw [guard_true, free_right ht]
    have h8 := mems_few w
    have := List.length_filter_le (powTest v) (mems v m)
    have : (lone v m).length ≤ 8 := by unfold lone; rw [List.length_map]; omega
    exact decide_eq_true (by omega)
  · rw [cv_eq, eqv_list, ints_map]; simp [optT]
end
end Mine

set_option autoImplicit false
namespace Mine
open PySem
set_option maxRecDepth 10000
set_option linter.unusedSimpArgs false

theorem sim_law_ends_right (us : List V) (pn : Pn) (K : Pn → V → Prop) (h : (dOneRight us).All pn K) : us.length = 3 ∧ (runB FT GT 30 b_law_ends_right ([29, 38, 31].zip us)).All pn (Weak K) := by
  unfold dOneRight at h
  split at h
  · rename_i v m a
    obtain ⟨⟨w3, ea⟩, h'⟩ := need_all h
    obtain ⟨n, rfl, hn, hk⟩ := any_all h'
    clear h h'
    subst ea
    have hk : K (.upto (n + 20)) (.bool true) := by
      have := hk (.bool true) rfl
      simp only [Tree.All, Tree.upN, Tree.knP] at this
      exact this
    refine ⟨rfl, ?_⟩
    have ht := w3.tn
    generalize hσ : List.zip _ _ = σ
    have E : EndE v m σ := ⟨by rw [← hσ]; rfl, by rw [← hσ]; rfl, by rw [← hσ]; rfl⟩
    refine all_def ?_
    unfold b_law_ends_right
    refine st_if (ends_1 w3 E) ?_
    refine all_seq (all_for (s := .list [.int 32, .int 64]) (items := [.int 32, .int 64]) rfl rfl rfl (fun rest f q => q = .upto n ∧ EndE v m f.σ ∧ ∀ u ∈ rest, ∃ z : Nat, u = .int (z : Int) ∧ 1 ≤ z ∧ z ≤ 64) ⟨rfl, E, fun u hu => ?_⟩ (fun u r f q hf => ?_) (fun f q hf => ⟨rfl, ?_⟩))
    · simp only [List.mem_cons, List.not_mem_nil, or_false] at hu
      rcases hu with rfl | rfl
      · exact ⟨32, rfl, by decide, by decide⟩
      · exact ⟨64, rfl, by decide, by decide⟩
    · obtain ⟨rfl, E, hr⟩ := hf
      obtain ⟨z, rfl, z1, z2⟩ := hr u (by simp)
      have E := E.set (i := 0) rfl (.int (z : Int))
      have g0 : get (set f.σ 0 (.int (z : Int))) 0 = some (.int (z : Int)) := get_eq
      have hc := ev_compI (F := FT) (G := GT) (n := 24) (σ := set f.σ 0 (.int (z : Int))) (elt := .call 58 [(.var 45), (.var 0)]) (src := .var 31) (t := 45) (cap := [0]) (gl := [58]) (xs := mems v m) (fun x => .int (sg x z)) (bound1 g0) (ev_varOf E.g31) fun x hx => by
        rw [only1 g0]; exact e_signed rfl (ev_varOf (varOwn rfl)) z1 z2
      refine st_assign (v := .list (((mems v m).map fun x => sg x z).map .int)) (by rw [List.map_map]; exact hc) ?_
      refine st_if (ends_2 ht z1 z2 (E.set (i := 43) rfl _) (get_ne rfl g0) (get_eq)) ?_
      exact all_nil ⟨rfl, rfl, E.set (i := 43) rfl _, fun u hu => hr u (List.mem_cons_of_mem _ hu)⟩
    · obtain ⟨rfl, E, _⟩ := hf
      refine all_seq ?_
      rw [ex, evL, evL, evL, ev]
      refine Tree.all_bind_of _ _ (Tree.all_bind_of _ _ (Tree.all_bind_of _ _ ?_))
      show (Tree.ret (V.int 2)).All _ _
      refine Tree.all_bind_of _ _ (ev_draw E.g29 rfl (by omega) fun k' k0 k1 => ?_)
      obtain ⟨k, rfl, hk8⟩ : ∃ k : Nat, k' = (k : Int) ∧ k < 8 := ⟨k'.toNat, by omega, by omega⟩
      simp only [ov_add, ov_app, ov_sub, ov_mul, ov_div, ov_mod, ov_pow, ov_shl, ov_shr, ov_and, ov_or, ov_xor]; rw [guard_true (shl_ok (by omega) (by omega) (by decide)), Int.toNat_natCast]
      refine Tree.all_bind_of _ _ (Tree.all_bind_of _ _ (ev_worth E.g29 (by omega) fun s hs => ?_))
      refine ⟨rfl, ?_⟩
      have E := (E.set (i := 9) rfl (.int (2 ^ k))).set (i := 52) rfl (.int s)
      have g9 : get (set (set f.σ 9 (.int (2 ^ k))) 52 (.int s)) 9 = some (.int (2 ^ k)) := get_ne rfl get_eq
      have g52 : get (set (set f.σ 9 (.int (2 ^ k))) 52 (.int s)) 52 = some (.int s) := get_eq
      dsimp only
      generalize set (set f.σ 9 (.int (2 ^ k))) 52 (.int s) = σ₁ at E g9 g52 ⊢
      refine st_if (ends_3 ht (by omega) E g9) ?_
      refine st_if (ends_4 ht hs E g52) ?_
      exact st_ret (ends_5 w3 E) (weak_up (by omega) hk)
  · simp only [Tree.All, Tree.upN, Tree.knP] at h
end Mine

set_option autoImplicit false
namespace Mine
open PySem
set_option maxRecDepth 10000
set_option linter.unusedSimpArgs false

theorem bl_high {w : Int} (hw : 0 ≤ w) {k : Nat} (h : bl w ≤ k) : tb w k = false := by
  have h1 : Wd k w := ⟨hw, by
    unfold bl at h
    split at h
    · have := pow_pos2 k; omega
    · have h2 : w.toNat < 2 ^ (w.toNat.log2 + 1) := Nat.lt_log2_self
      have h3 : (2 : Nat) ^ (w.toNat.log2 + 1) ≤ 2 ^ k := Nat.pow_le_pow_right (by decide) h
      have e : ((2 ^ k : Nat) : Int) = (2 : Int) ^ k := by push_cast; rfl
      omega⟩
  exact h1.high (Nat.le_refl _)
theorem bl_top {w : Int} (hw : 0 < w) : tb w (bl w - 1) = true := by
  unfold bl
  rw [if_neg (by omega), Nat.add_sub_cancel, tb_toNat (by omega)]
  exact Nat.testBit_log2 (by omega)
section
variable {l h : Int}
/-- the count of the bits from which on two words are alike -/
noncomputable def apartAt (l h : Int) : Nat := bl (bxor l h)
theorem apart_le (hl : Wd 64 l) (hh : Wd 64 h) : apartAt l h ≤ 64 := bl_le (Wd.bxor hl hh).2
theorem alike (hl : Wd 64 l) (hh : Wd 64 h) {k : Nat} (hk : apartAt l h ≤ k) : tb l k = tb h k := by
  have := bl_high (w := bxor l h) (Wd.bxor hl hh).1 hk
  rw [show tb (bxor l h) k = _ from tb_bxor l h k] at this
  cases q : tb l k <;> cases q' : tb h k <;> simp_all
theorem wd_div {x : Int} (hx : Wd 64 x) (n : Nat) : Wd 64 (x / 2 ^ n) := ⟨Int.ediv_nonneg hx.1 (Int.le_of_lt (pow_pos2 n)), by have := Int.ediv_le_self (2 ^ n) hx.1; have := hx.2; omega⟩
theorem same_top (hl : Wd 64 l) (hh : Wd 64 h) : l / 2 ^ apartAt l h = h / 2 ^ apartAt l h := Wd.ext (wd_div hl _) (wd_div hh _) fun k _ => by
  rw [tb_div, tb_div]; exact alike hl hh (by omega)
theorem div_mono {a b : Int} (h : a ≤ b) (n : Nat) : a / 2 ^ n ≤ b / 2 ^ n := Int.ediv_le_ediv (pow_pos2 n) h
/-- where they part -/
theorem parting (hl : Wd 64 l) (hh : Wd 64 h) (hle : l ≤ h) (hn : apartAt l h ≠ 0) : ∃ q, l / 2 ^ (apartAt l h - 1) = 2 * q ∧ h / 2 ^ (apartAt l h - 1) = 2 * q + 1 := by
  have hs := same_top hl hh
  have hx := Wd.bxor hl hh
  have h0 : 0 < bxor l h := by
    have h1 := hx.1
    have h2 : bxor l h ≠ 0 := fun e => hn (by unfold apartAt; rw [e]; rfl)
    have h1 : 0 ≤ bxor l h := h1
    omega
  have ht := bl_top h0
  obtain ⟨j, hj⟩ : ∃ j, apartAt l h = j + 1 := ⟨apartAt l h - 1, by omega⟩
  rw [show bl (bxor l h) = j + 1 from hj, Nat.add_sub_cancel, show tb (bxor l h) j = _ from tb_bxor l h j] at ht
  rw [hj, Nat.add_sub_cancel]
  rw [hj, ← half_step, ← half_step] at hs
  have hm := div_mono hle j
  have hb : tb l j ≠ tb h j := fun e => by rw [e] at ht; simp at ht
  unfold tb at hb
  refine ⟨l / 2 ^ j / 2, ?_⟩
  generalize l / 2 ^ j = a at *
  generalize h / 2 ^ j = b at *
  have : a ≠ b := fun e => hb (by rw [e])
  omega
theorem unlike_below (hl : Wd 64 l) (hh : Wd 64 h) (hle : l ≤ h) {k : Nat} (hk : k < apartAt l h) : l / 2 ^ k ≠ h / 2 ^ k := fun e => by
  obtain ⟨q, h1, h2⟩ := parting hl hh hle (by omega)
  have e2 : apartAt l h - 1 = k + (apartAt l h - 1 - k) := by omega
  rw [e2, pow_split, ← Int.ediv_ediv_of_nonneg (Int.le_of_lt (pow_pos2 k))] at h1 h2
  rw [e] at h1
  omega
noncomputable def spanV (l h : Int) : Int := l - band l (2 ^ apartAt l h - 1)
noncomputable def spanM (l h : Int) : Int := 2 ^ apartAt l h - 1
theorem spanV_is (l h : Int) : spanV l h = l / 2 ^ apartAt l h * 2 ^ apartAt l h := by
  unfold spanV
  rw [show band l (2 ^ apartAt l h - 1) = l % 2 ^ apartAt l h from band_mask _ _]
  have := Int.emod_add_mul_ediv l (2 ^ apartAt l h)
  rw [Int.mul_comm] at this
  omega
theorem tb_spanV (l h : Int) (k : Nat) : tb (spanV l h) k = (tb l k && !decide (k < apartAt l h)) := by
  unfold spanV
  have hs : Sub (Builtin.bitAnd l (2 ^ apartAt l h - 1)) l := fun j hj => by rw [tb_band] at hj; simp at hj; exact hj.1
  show tb (l - Builtin.bitAnd l (2 ^ apartAt l h - 1)) k = _
  rw [tb_subm hs, tb_band, tb_mask]
  cases tb l k <;> cases decide (k < apartAt l h) <;> rfl
theorem wd_spanV (hl : Wd 64 l) (h : Int) : Wd 64 (spanV l h) := hl.sub hl.band fun j hj => by rw [tb_band] at hj; simp at hj; exact hj.1
theorem wd_spanM (hl : Wd 64 l) (hh : Wd 64 h) : Wd 64 (spanM l h) := by
  have h1 := pow_pos2 (apartAt l h)
  have h2 : (2 : Int) ^ apartAt l h ≤ 2 ^ 64 := by
    have := apart_le hl hh
    have e : 64 = apartAt l h + (64 - apartAt l h) := by omega
    have := Int.mul_le_mul_of_nonneg_left (show (1 : Int) ≤ 2 ^ (64 - apartAt l h) by have := pow_pos2 (64 - apartAt l h); omega) (Int.le_of_lt h1)
    rw [← pow_split, ← e] at this
    omega
  unfold spanM
  exact ⟨by omega, by omega⟩
noncomputable def between (l h : Int) : List Int := (List.range (h + 1 - l).toNat).map fun i : Nat => l + (i : Int)
theorem mem_between (hle : l ≤ h) {x : Int} : x ∈ between l h ↔ l ≤ x ∧ x ≤ h := by
  unfold between
  rw [List.mem_map]
  constructor
  · rintro ⟨i, hi, rfl⟩
    have := List.mem_range.mp hi
    omega
  · rintro ⟨a, b⟩
    exact ⟨(x - l).toNat, List.mem_range.mpr (by omega), by omega⟩
theorem best_span (hl : Wd 64 l) (hh : Wd 64 h) (hle : l ≤ h) : between l h ≠ [] ∧ andAll (between l h) = spanV l h ∧ orAll (between l h) - andAll (between l h) = spanM l h := by
  have hwd : ∀ x ∈ between l h, Wd 64 x := fun x hx => by
    have := (mem_between hle).mp hx
    have := hl.1
    have := hh.2
    exact ⟨by omega, by omega⟩
  have hne : between l h ≠ [] := List.ne_nil_of_mem ((mem_between hle).mpr ⟨Int.le_refl l, hle⟩)
  refine ⟨hne, best_is hne hwd (wd_spanV hl h) (wd_spanM hl hh) (fun k hk => ?_) (fun x hx => ⟨hwd x hx, fun k hk => ?_⟩) (fun k h64 hk => ?_)⟩
  · rw [show tb (spanM l h) k = _ from tb_mask _ k] at hk
    rw [tb_spanV, hk]; simp
  · rw [show tb (spanM l h) k = _ from tb_mask _ k] at hk
    rw [tb_spanV, hk]
    have hk := of_decide_eq_false hk
    obtain ⟨a, b⟩ := (mem_between hle).mp hx
    have e := same_top hl hh
    have e1 := div_mono a (apartAt l h)
    have e2 := div_mono b (apartAt l h)
    have e3 : x / 2 ^ apartAt l h = l / 2 ^ apartAt l h := by omega
    have e4 : k = apartAt l h + (k - apartAt l h) := by omega
    rw [e4, ← tb_div, ← tb_div, e3]; simp
  · rw [show tb (spanM l h) k = _ from tb_mask _ k] at hk
    have hk := of_decide_eq_true hk
    obtain ⟨q, h1, h2⟩ := parting hl hh hle (by omega)
    generalize hp : apartAt l h - 1 = p at h1 h2
    have hP := pow_pos2 p
    have a1 := Int.emod_add_mul_ediv l (2 ^ p)
    have a2 := Int.emod_add_mul_ediv h (2 ^ p)
    have b1 := Int.emod_lt_of_pos l hP
    have b2 := Int.emod_nonneg h (Int.ne_of_gt hP)
    rw [h1] at a1
    rw [h2] at a2
    have e1 : 2 ^ p * (2 * q + 1) = 2 ^ p * (2 * q) + 2 ^ p := by rw [Int.mul_add, Int.mul_one]
    have tp : tb ((2 * q + 1) * 2 ^ p) p = true := by
      rw [tb_mul, decide_eq_true (Nat.le_refl _), Nat.sub_self]
      simp [tb]
    have tl : ∀ j, j < p → tb ((2 * q + 1) * 2 ^ p) j = false := fun j hj => by rw [tb_mul, decide_eq_false (by omega)]; rfl
    refine ⟨(2 * q + 1) * 2 ^ p, (mem_between hle).mpr ?_, (2 * q + 1) * 2 ^ p - 1, (mem_between hle).mpr ?_, ?_⟩
    · rw [Int.mul_comm]; omega
    · rw [Int.mul_comm]; omega
    · rw [tb_pred tp tl]
      by_cases hkp : k < p
      · rw [tl k hkp, if_pos hkp]; simp
      · have : k = p := by omega
        subst this
        rw [tp, if_neg (by omega), if_pos rfl]; simp
theorem span_call (hl : Wd 64 l) (hh : Wd 64 h) : FT 19 [.int l, .int h] = .ret (.tnum (spanV l h) (spanM l h)) := by
  show dSpan [.int l, .int h] = _
  rw [dSpan, guard_true (by rw [wd_wordB hl, wd_wordB hh, wd_wordB (Wd.bxor hl hh)]; rfl)]; rfl
end
end Mine

set_option autoImplicit false
namespace Mine
open PySem
set_option maxRecDepth 10000
set_option linter.unusedSimpArgs false

theorem short_pow64 {n : Nat} (h : n ≤ 64) : ((2 : Int) ^ n != 0 && short (2 ^ n)) = true := by
  by_cases h64 : n < 64
  · exact short_pow h64
  · have : n = 64 := by omega
    subst this; decide +kernel
theorem div_pow64 (x : Int) {k : Nat} (hk : k ≤ 64) : opV .FloorDiv (.int x) (.int (2 ^ k)) = .ret (.int (x / 2 ^ k)) := by
  simp only [ov_add, ov_app, ov_sub, ov_mul, ov_div, ov_mod, ov_pow, ov_shl, ov_shr, ov_and, ov_or, ov_xor]; rw [guard_true (short_pow64 hk), fdiv_pow]
theorem ev_min2 {n : Nat} {σ : Env} {a b : X} {x y : Int} (ha : ev FT GT n σ a = .ret (.int x)) (hb : ev FT GT n σ b = .ret (.int y)) : ev FT GT (n + 1) σ (.call 4 [a, b]) = .ret (.int (min x y)) := ev_call (evL_2 ha hb) rfl
theorem ev_max2 {n : Nat} {σ : Env} {a b : X} {x y : Int} (ha : ev FT GT n σ a = .ret (.int x)) (hb : ev FT GT n σ b = .ret (.int y)) : ev FT GT (n + 1) σ (.call 5 [a, b]) = .ret (.int (max x y)) := ev_call (evL_2 ha hb) rfl
theorem ev_static {F : Nat → List V → Tree V} {G : Nat → Int} {n f : Nat} {σ : Env} {args : List X} {vs : List V} {u : V} (ha : evL (ev F G n σ) args = .ret vs) (h : F f vs = .ret u) : ev F G (n + 1) σ (.static f args) = .ret u := by
  rw [ev, ha]; exact h
theorem ev_span {n i j : Nat} {σ : Env} {l h : Int} (hi : get σ i = some (.int l)) (hj : get σ j = some (.int h)) (hl : Wd 64 l) (hh : Wd 64 h) : ev FT GT (n + 3) σ (.meth 28 (.static 19 [(.var i), (.var j)]) []) = .ret (.tup [.int (spanV l h), .int (spanM l h)]) :=
  ev_meth (ev_static (evL_2 (ev_varOf hi) (ev_varOf hj)) (span_call hl hh)) rfl rfl
theorem sim_law_span_right (us : List V) (pn : Pn) (K : Pn → V → Prop) (h : (dSpanRight us).All pn K) : us.length = 1 ∧ (runB FT GT 30 b_law_span_right ([29].zip us)).All pn (Weak K) := by
  unfold dSpanRight at h
  split at h
  · obtain ⟨n, rfl, hn, hk⟩ := any_all h
    have hk : K (.upto (n + 40)) (.bool true) := by
      have := hk (.bool true) rfl
      simp only [Tree.All, Tree.upN, Tree.knP] at this
      exact this
    refine ⟨rfl, ?_⟩
    generalize hσ : List.zip _ _ = σ
    have f29 : get σ 29 = some .pen := by rw [← hσ]; rfl
    refine all_def ?_
    unfold b_law_span_right
    refine all_seq ?_
    rw [ex, evL, evL, evL]
    refine Tree.all_bind_of _ _ (Tree.all_bind_of _ _ (ev_worth f29 (by omega) fun l hl => ?_))
    refine Tree.all_bind_of _ _ (Tree.all_bind_of _ _ (ev_worth f29 (by omega) fun o ho => ?_))
    refine ⟨rfl, ?_⟩
    have g29 : get (set (set σ 6 (.int l)) 48 (.int o)) 29 = some .pen := by repeat (first | exact get_eq | exact f29 | refine get_ne rfl ?_)
    have g6 : get (set (set σ 6 (.int l)) 48 (.int o)) 6 = some (.int l) := by repeat (first | exact get_eq | refine get_ne rfl ?_)
    have g48 : get (set (set σ 6 (.int l)) 48 (.int o)) 48 = some (.int o) := by repeat (first | exact get_eq | refine get_ne rfl ?_)
    dsimp only
    generalize set (set σ 6 (.int l)) 48 (.int o) = σ₁ at g29 g6 g48 ⊢
    refine st_assignD ?_
    rw [ev, evL, evL, evL, ev]
    refine Tree.all_bind_of _ _ (Tree.all_bind_of _ _ (Tree.all_bind_of _ _ ?_))
    rw [ev_varOf g6]
    refine Tree.all_bind_of _ _ (ev_draw g29 rfl (by omega) fun d d0 d1 => ?_)
    show (exB FT GT 28 ⟨set σ₁ 7 (.int (min (l + d) (B64 - 1))), Option.none⟩ _).All (.upto (n + 6 + 6 + 1)) _
    have hB : B64 = 18446744073709551616 := rfl
    have h2B : (2 : Int) ^ 64 = 18446744073709551616 := by decide
    have hl1 := hl.1
    have hl2 := hl.2
    have hm : Wd 64 (min (l + d) (B64 - 1)) := ⟨by omega, by omega⟩
    have hlm : l ≤ min (l + d) (B64 - 1) := by omega
    have hmd : min (l + d) (B64 - 1) ≤ l + 23 := by omega
    generalize min (l + d) (B64 - 1) = t at hm hlm hmd ⊢
    have h29 : get (set σ₁ 7 (.int t)) 29 = some .pen := by simp [get_set, g29]
    have h6 : get (set σ₁ 7 (.int t)) 6 = some (.int l) := by simp [get_set, g6]
    have h48 : get (set σ₁ 7 (.int t)) 48 = some (.int o) := by simp [get_set, g48]
    have h7 : get (set σ₁ 7 (.int t)) 7 = some (.int t) := by repeat (first | exact get_eq | refine get_ne rfl ?_)
    generalize set σ₁ 7 (.int t) = σ₂ at h29 h6 h48 h7 ⊢
    obtain ⟨bne_, b1, b2⟩ := best_span hl hm hlm
    have hrange : ∀ k, ev FT GT (k + 3) σ₂ (.call 7 [(.var 6), (.bin .Add (.var 7) (.int 1))]) = .ret (.rng l (t + 1)) := fun k =>
      ev_call (evL_2 (ev_varOf h6) (ev_bin (ev_varOf h7) (b := .int 1) rfl rfl)) rfl
    have hlist : ∀ k, ev FT GT (k + 4) σ₂ (.call 8 [(.call 7 [(.var 6), (.bin .Add (.var 7) (.int 1))])]) = .ret (.list ((between l t).map .int)) := fun k => by
      refine ev_call (evL_1 (hrange k)) ?_
      show dList [.rng l (t + 1)] = _
      rw [dList, guard_true (decide_eq_true (by omega))]
      unfold between
      rw [List.map_map]; rfl
    refine st_if (tv_cmp (ev_span h6 h7 hl hm) (b := .tup [.int (spanV l t), .int (spanM l t)]) (ev_call (evL_1 (hlist _)) (by rw [best_of bne_, b2, b1])) (cmp_ne_pair _ _)) ?_
    refine st_assignT (vs := [.int (min l o), .int (max l o), .int 1]) (evL_3 (ev_min2 (ev_varOf h6) (ev_varOf h48)) (ev_max2 (ev_varOf h6) (ev_varOf h48)) rfl) rfl ?_
    have wa : Wd 64 (min l o) := ⟨by have := hl.1; have := ho.1; omega, by have := hl.2; have := ho.2; omega⟩
    have wb : Wd 64 (max l o) := ⟨by have := hl.1; have := ho.1; omega, by have := hl.2; have := ho.2; omega⟩
    have hab : min l o ≤ max l o := by omega
    generalize min l o = a at wa hab ⊢
    generalize max l o = b at wb hab ⊢
    have i2 : get (set (set (set σ₂ 2 (.int a)) 40 (.int b)) 4 (.int 1)) 2 = some (.int a) := by repeat (first | exact get_eq | refine get_ne rfl ?_)
    have i40 : get (set (set (set σ₂ 2 (.int a)) 40 (.int b)) 4 (.int 1)) 40 = some (.int b) := by repeat (first | exact get_eq | refine get_ne rfl ?_)
    have i4 : get (set (set (set σ₂ 2 (.int a)) 40 (.int b)) 4 (.int 1)) 4 = some (.int (2 ^ 0)) := by repeat (first | exact get_eq | refine get_ne rfl ?_)
    dsimp only
    generalize set (set (set σ₂ 2 (.int a)) 40 (.int b)) 4 (.int 1) = σ₃ at i2 i40 i4 ⊢
    have hn64 := apart_le wa wb
    refine all_seq (all_while (fun k f => get f.σ 2 = some (.int a) ∧ get f.σ 40 = some (.int b) ∧ ∃ j, j ≤ apartAt a b ∧ get f.σ 4 = some (.int (2 ^ j)) ∧ k = apartAt a b - j) (fun k f hf => ?_) (apartAt a b) (by omega) ⟨i2, i40, 0, Nat.zero_le _, i4, rfl⟩)
    obtain ⟨j2, j40, j, hj, j4, rfl⟩ := hf
    have hj64 : j ≤ 64 := by omega
    have hd : ∀ (k i : Nat) (z : Int), get f.σ i = some (.int z) → ev FT GT (k + 2) f.σ (.bin .FloorDiv (.var i) (.var 4)) = .ret (.int (z / 2 ^ j)) := fun k i z hi => ev_bin (ev_varOf hi) (ev_varOf j4) (div_pow64 _ hj64)
    have hc : tv FT GT 24 f.σ (.cmp .NotEq (.bin .FloorDiv (.var 2) (.var 4)) (.bin .FloorDiv (.var 40) (.var 4))) = .ret (!(a / 2 ^ j == b / 2 ^ j)) := tv_cmp (hd _ _ _ j2) (hd _ _ _ j40) rfl
    by_cases hjn : j < apartAt a b
    · have hne : (a / 2 ^ j == b / 2 ^ j) = false := by simpa using unlike_below wa wb hab hjn
      rw [hne] at hc
      refine .inr ⟨hc, ?_⟩
      have g2 : (small 2 || small (2 ^ j)) = true := rfl
      refine st_assign (v := .int (2 ^ (j + 1))) (ev_bin (a := .int 2) rfl (ev_varOf j4) (by simp only [ov_add, ov_app, ov_sub, ov_mul, ov_div, ov_mod, ov_pow, ov_shl, ov_shr, ov_and, ov_or, ov_xor]; rw [guard_true g2, Int.pow_succ, Int.mul_comm])) ?_
      exact all_nil ⟨rfl, rfl, apartAt a b - (j + 1), by omega, by simp [get_set, j2], by simp [get_set, j40], j + 1, hjn, get_eq, rfl⟩
    · have hje : j = apartAt a b := by omega
      have heq : (a / 2 ^ j == b / 2 ^ j) = true := by rw [hje, beq_iff_eq]; exact same_top wa wb
      rw [heq] at hc
      refine .inl ⟨hc, rfl, ?_⟩
      have gm : (small (a / 2 ^ j) || small (2 ^ j)) = true := by rw [small_of (wd_div wa j)]; rfl
      have e1 : ev FT GT 22 f.σ (.cmp .Eq (.meth 28 (.static 19 [(.var 2), (.var 40)]) []) (.tup [(.bin .Mult (.bin .FloorDiv (.var 2) (.var 4)) (.var 4)), (.bin .Sub (.var 4) (.int 1))])) = .ret (.bool true) := by
        refine ev_cmp (ev_span j2 j40 wa wb) (ev_tup2 (u := .int (a / 2 ^ j * 2 ^ j)) (v := .int (2 ^ j - 1)) (ev_bin (hd _ _ _ j2) (ev_varOf j4) (by simp only [ov_add, ov_app, ov_sub, ov_mul, ov_div, ov_mod, ov_pow, ov_shl, ov_shr, ov_and, ov_or, ov_xor]; rw [guard_true gm])) (ev_bin (ev_varOf j4) (b := .int 1) rfl rfl)) ?_
        rw [hje, ← spanV_is]
        show cmpV .Eq (.tup [.int (spanV a b), .int (spanM a b)]) (.tup [.int (spanV a b), .int (spanM a b)]) = _
        rw [cv_eq, eq_pair_self]; rfl
      have e2 : ev FT GT 22 f.σ (.cmp .Eq (.meth 28 (.static 18 []) []) (.tup [(.int 0), (.bin .Sub (.call 49 []) (.int 1))])) = .ret (.bool true) := rfl
      refine st_ret (v := .bool true) ?_ (weak_up (by omega) hk)
      rw [ev, chainV, e1, chainV, e2]; rfl
      intro e; cases e
  · simp only [Tree.All, Tree.upN, Tree.knP] at h
end Mine

set_option autoImplicit false
namespace Mine
open PySem
set_option maxRecDepth 10000
set_option linter.unusedSimpArgs false

section
variable {F : Nat → List V → Tree V} {G : Nat → Int} {n : Nat} {σ : Env} {pn : Pn} {K : Pn → V → Prop} {cs : List Int} {s t : Int}
theorem a_of {x : X} {v : V} (h : ev F G n σ x = .ret v) (k : K pn v) : (ev F G n σ x).All pn K := by rw [h]; exact k
theorem a_bin {op : Operator} {l r : X} (h : (ev F G n σ l).All pn fun q a => (ev F G n σ r).All q fun q' b => (opV op a b).All q' K) : (ev F G (n + 1) σ (.bin op l r)).All pn K := by
  rw [ev]
  exact Tree.all_bind_of _ _ (Tree.all_mono _ _ h fun _ _ h' => Tree.all_bind_of _ _ h')
theorem a_call {f : Nat} {a : X} (h : (ev F G n σ a).All pn fun q v => (F f [v]).All q K) : (ev F G (n + 1) σ (.call f [a])).All pn K := by
  rw [ev, evL, evL]
  exact Tree.all_bind_of _ _ (Tree.all_bind_of _ _ (Tree.all_mono _ _ h fun _ _ h' => h'))
theorem a_pen0 (h : get σ 29 = some .pen) (k : K (.known cs s t) (.list (cs.map .int))) : (ev F G (n + 2) σ (.penAt (.var 29) 0)).All (.known cs s t) K := by
  rw [ev, ev_varOf h]; exact k
theorem a_pen1 (h : get σ 29 = some .pen) (k : K (.known cs s t) (.int s)) : (ev F G (n + 2) σ (.penAt (.var 29) 1)).All (.known cs s t) K := by
  rw [ev, ev_varOf h]; exact k
theorem a_pen2 (h : get σ 29 = some .pen) (k : K (.known cs s t) (.int t)) : (ev F G (n + 2) σ (.penAt (.var 29) 2)).All (.known cs s t) K := by
  rw [ev, ev_varOf h]; exact k
theorem a_cmp {KB : Pn → Bool → Prop} {op : CmpOp} {l r : X} (h : (ev F G n σ l).All pn fun q a => (ev F G n σ r).All q fun q' b => (cmpV op a b).All q' KB) : (tv F G (n + 1) σ (.cmp op l r)).All pn KB := by
  rw [tv]
  exact Tree.all_bind_of _ _ (Tree.all_mono _ _ h fun _ _ h' => Tree.all_bind_of _ _ h')
theorem a_and2 {KB : Pn → Bool → Prop} {a b : X} (h : (tv F G n σ a).All pn fun q x => (x = false → KB q false) ∧ (x = true → (tv F G n σ b).All q fun q' y => KB q' y)) : (tv F G (n + 1) σ (.andE [a, b])).All pn KB := by
  rw [tv, chainT]
  refine Tree.all_bind_of _ _ (Tree.all_mono _ _ h fun q x h' => ?_)
  cases x with
  | false => exact h'.1 rfl
  | true =>
    rw [chainT]
    refine Tree.all_bind_of _ _ (Tree.all_mono _ _ (h'.2 rfl) fun q' y hy => ?_)
    cases y <;> exact hy
theorem st_pen1 {f : Fs} {e : X} {r : List S} {KS : Pn → Fs × Option V → Prop} {v : Int} (h : get f.σ 29 = some .pen) (he : ev F G n f.σ e = .ret (.int v)) (k : (exB F G (n + 1) f r).All (.known cs v t) KS) : (exB F G (n + 2) f (.setPen 29 1 e :: r)).All (.known cs s t) KS :=
  all_seq (by rw [ex, h, he]; exact ⟨rfl, k⟩)
theorem st_pen2 {f : Fs} {e : X} {r : List S} {KS : Pn → Fs × Option V → Prop} {v : Int} (h : get f.σ 29 = some .pen) (he : (ev F G n f.σ e).All (.known cs s t) fun q u => q = .known cs s t ∧ u = .int v) (k : (exB F G (n + 1) f r).All (.known cs s v) KS) : (exB F G (n + 2) f (.setPen 29 2 e :: r)).All (.known cs s t) KS :=
  all_seq (by
    rw [ex, h]
    refine Tree.all_bind_of _ _ (Tree.all_mono _ _ he fun q u hu => ?_)
    obtain ⟨rfl, rfl⟩ := hu
    exact ⟨rfl, k⟩)
theorem st_ifD {f : Fs} {c : X} {b r : List S} {KS : Pn → Fs × Option V → Prop} (h : (tv F G (n + 1) f.σ c).All pn fun q x => (x = true → (exB F G (n + 1) f b).All q fun q o => (o.2.isSome = true ∧ KS q o) ∨ (o.2 = Option.none ∧ (exB F G (n + 2) o.1 r).All q KS)) ∧ (x = false → (exB F G (n + 2) f r).All q KS)) : (exB F G (n + 3) f (.ifS c b [] :: r)).All pn KS := by
  rw [exB, ex]
  refine Tree.all_bind_of _ _ (Tree.all_bind_of _ _ (Tree.all_mono _ _ h fun q x hx => ?_))
  cases x with
  | false => exact hx.2 rfl
  | true =>
    refine Tree.all_mono _ _ (hx.1 rfl) fun q o ho => ?_
    obtain ⟨f', v⟩ := o
    rcases ho with ⟨h1, h2⟩ | ⟨rfl, h2⟩
    · cases v with
      | none => cases h1
      | some v => exact h2
    · exact h2
end
/-- what a draw gives -/
noncomputable def Drawn (cs : List Int) (s m : Int) (q : Pn) (v : V) : Prop := ∃ sp k d, q = .known cs sp k ∧ 0 ≤ sp ∧ sp ≤ s + 1 ∧ 0 ≤ k ∧ v = .int d ∧ 0 ≤ d ∧ d < m
theorem op_mod {x m : Int} (h : 0 < m) : opV .Mod (.int x) (.int m) = .ret (.int (x % m)) := by
  simp only [ov_add, ov_app, ov_sub, ov_mul, ov_div, ov_mod, ov_pow, ov_shl, ov_shr, ov_and, ov_or, ov_xor]; rw [guard_true (by simp only [bne_iff_ne, ne_eq]; omega), Int.fmod_eq_emod_of_nonneg _ (Int.le_of_lt h)]
theorem op_div {x m : Int} (h : 0 < m) (hm : m ≤ 65536) : opV .FloorDiv (.int x) (.int m) = .ret (.int (x / m)) := by
  have h1 : (m != 0) = true := by simp only [bne_iff_ne, ne_eq]; omega
  have h2 : short m = true := by
    simp only [short, decide_eq_true_eq]
    have e2 : (18446744073709551616 : Nat) < 2 ^ 300 := by decide +kernel
    generalize (2 : Nat) ^ 300 = B at e2 ⊢
    omega
  simp only [ov_add, ov_app, ov_sub, ov_mul, ov_div, ov_mod, ov_pow, ov_shl, ov_shr, ov_and, ov_or, ov_xor]; rw [guard_true (by rw [h1, h2]; rfl), Int.fdiv_eq_ediv_of_nonneg _ (Int.le_of_lt h)]
theorem op_mul {x y : Int} (h : x.natAbs < 2 ^ 64 ∨ y.natAbs < 2 ^ 64) : opV .Mult (.int x) (.int y) = .ret (.int (x * y)) := by
  simp only [ov_add, ov_app, ov_sub, ov_mul, ov_div, ov_mod, ov_pow, ov_shl, ov_shr, ov_and, ov_or, ov_xor]; rw [guard_true (by
    simp only [Bool.or_eq_true, small, decide_eq_true_eq]; exact h)]
theorem op_pow {x : Int} {k : Nat} (hk : k ≤ 1000000) (h : x.natAbs < 2 ^ 64) : opV .Pow (.int x) (.int (k : Int)) = .ret (.int (x ^ k)) := by
  simp only [ov_add, ov_app, ov_sub, ov_mul, ov_div, ov_mod, ov_pow, ov_shl, ov_shr, ov_and, ov_or, ov_xor]; rw [guard_true (by simp only [Bool.and_eq_true, small, decide_eq_true_eq]; exact ⟨⟨by omega, by omega⟩, h⟩), Int.toNat_natCast]
theorem int_call (x : Int) : FT 0 [.int x] = .ret (.int x) := rfl
theorem abs_call (x : Int) : FT 3 [.int x] = .ret (.int (if x < 0 then -x else x)) := rfl
theorem len_call (xs : List Int) : FT 1 [.list (xs.map .int)] = .ret (.int (xs.length : Int)) := by
  show Tree.ret (V.int _) = _
  rw [List.length_map]
theorem sum_call (xs : List Int) : FT 2 [.list (xs.map .int)] = .ret (.int xs.sum) := by
  show dSum [.list (xs.map .int)] = _
  rw [dSum, ints_map]
theorem t_of {α : Type} {x : Tree α} {v : α} {pn : Pn} {K : Pn → α → Prop} (h : x = .ret v) (k : K pn v) : x.All pn K := by rw [h]; exact k
theorem st_call0 {n : Nat} {σ : Env} {a : X} {x : Int} (h : ev FT GT n σ a = .ret (.int x)) : ev FT GT (n + 1) σ (.call 0 [a]) = .ret (.int x) := ev_call (evL_1 h) rfl
/-- the rest of a draw: the mixed number -/
theorem draw_mix {f : Fs} {cs : List Int} {s m z t' : Int} (hs : 0 ≤ s) (hs2 : s ≤ 1000) (m0 : 0 < m) (g30 : get f.σ 30 = some (.int m)) (g25 : get f.σ 25 = some (.int s)) (g23 : get f.σ 23 = some (.int z)) (ht : 0 ≤ t') {n : Nat} :
    (exB FT GT (n + 20) f [
      .assign 26 (.bin .Mod (.call 0 [(.bin .Pow (.bin .Add (.bin .Add (.bin .Mod (.call 0 [(.var 23)]) (.int 2147483587)) (.bin .Mult (.int 32203) (.var 25))) (.int 6607)) (.int 5))]) (.int 2147483629)),
      .assign 26 (.bin .Mod (.call 0 [(.bin .Pow (.bin .Add (.bin .Add (.bin .Mult (.var 26) (.bin .Add (.bin .Mult (.int 2) (.var 25)) (.int 7589))) (.bin .Mult (.bin .Mult (.int 32203) (.var 25)) (.var 25))) (.int 71)) (.int 3))]) (.int 2147483579)),
      .ret (.bin .Mod (.call 0 [(.bin .FloorDiv (.var 26) (.int 32))]) (.var 30))]).All (.known cs (s + 1) t') fun q o => Drawn cs s m q (o.2.getD .none) := by
  have e64 : (2 : Nat) ^ 64 = 18446744073709551616 := by decide
  have b1 := Int.emod_nonneg z (show (2147483587 : Int) ≠ 0 by decide)
  have b2 := Int.emod_lt_of_pos z (show (0 : Int) < 2147483587 by decide)
  refine st_assign (v := .int ((z % 2147483587 + 32203 * s + 6607) ^ 5 % 2147483629)) (ev_bin (st_call0 (ev_bin (ev_bin (ev_bin (ev_bin (st_call0 (ev_varOf g23)) (b := .int 2147483587) rfl (op_mod (by decide))) (ev_bin (a := .int 32203) rfl (ev_varOf g25) (op_mul (by omega))) rfl) (b := .int 6607) rfl rfl) (b := .int ((5 : Nat) : Int)) rfl (op_pow (by decide) (by omega)))) (b := .int 2147483629) rfl (op_mod (by decide))) ?_
  have c1 := Int.emod_nonneg ((z % 2147483587 + 32203 * s + 6607) ^ 5) (show (2147483629 : Int) ≠ 0 by decide)
  have c2 := Int.emod_lt_of_pos ((z % 2147483587 + 32203 * s + 6607) ^ 5) (show (0 : Int) < 2147483629 by decide)
  generalize (z % 2147483587 + 32203 * s + 6607) ^ 5 % 2147483629 = x at c1 c2 ⊢
  have g26 : get (set f.σ 26 (.int x)) 26 = some (.int x) := get_eq
  have h25 : get (set f.σ 26 (.int x)) 25 = some (.int s) := get_ne rfl g25
  have h30 : get (set f.σ 26 (.int x)) 30 = some (.int m) := get_ne rfl g30
  have q1 : 0 ≤ x * (2 * s + 7589) ∧ x * (2 * s + 7589) ≤ 2147483629 * 9589 := by
    have hx : 0 ≤ 2 * s + 7589 := by omega
    refine ⟨Int.mul_nonneg c1 hx, ?_⟩
    exact Int.mul_le_mul (by omega) (by omega) hx (by decide)
  have q2 : 0 ≤ 32203 * s * s ∧ 32203 * s * s ≤ 32203000 * 1000 := by
    have hx : 0 ≤ 32203 * s := by omega
    refine ⟨Int.mul_nonneg hx hs, ?_⟩
    exact Int.mul_le_mul (by omega) hs2 hs (by decide)
  refine st_assign (v := .int ((x * (2 * s + 7589) + 32203 * s * s + 71) ^ 3 % 2147483579)) (ev_bin (st_call0 (ev_bin (ev_bin (ev_bin (ev_bin (ev_varOf g26) (ev_bin (ev_bin (a := .int 2) rfl (ev_varOf h25) (op_mul (by omega))) (b := .int 7589) rfl rfl) (op_mul (by omega))) (ev_bin (ev_bin (a := .int 32203) rfl (ev_varOf h25) (op_mul (by omega))) (ev_varOf h25) (op_mul (by omega))) rfl) (b := .int 71) rfl rfl) (b := .int ((3 : Nat) : Int)) rfl (op_pow (by decide) (by omega)))) (b := .int 2147483579) rfl (op_mod (by decide))) ?_
  generalize (x * (2 * s + 7589) + 32203 * s * s + 71) ^ 3 % 2147483579 = y
  have i26 : get (set (set f.σ 26 (.int x)) 26 (.int y)) 26 = some (.int y) := get_eq
  have i30 : get (set (set f.σ 26 (.int x)) 26 (.int y)) 30 = some (.int m) := get_ne rfl h30
  exact st_ret (v := .int (y / 32 % m)) (ev_bin (st_call0 (ev_bin (ev_varOf i26) (b := .int 32) rfl (op_div (by decide) (by decide)))) (ev_varOf i30) (op_mod m0)) ⟨s + 1, t', y / 32 % m, rfl, by omega, Int.le_refl _, ht, rfl, Int.emod_nonneg _ (by omega), Int.emod_lt_of_pos _ m0⟩
theorem draw_run {cs : List Int} {s t m : Int} (hc : cs.length ≤ 40) (hs : 0 ≤ s) (hs2 : s ≤ 1000) (ht : 0 ≤ t) (m0 : 0 < m) (m1 : m ≤ 65536) : (runB FT GT 30 b_law_draw ([29, 30].zip [.pen, .int m])).All (.known cs s t) (Drawn cs s m) := by
  have e64 : (2 : Nat) ^ 64 = 18446744073709551616 := by decide
  generalize hσ : List.zip _ _ = σ
  have f29 : get σ 29 = some .pen := by rw [← hσ]; rfl
  have f30 : get σ 30 = some (.int m) := by rw [← hσ]; rfl
  refine all_def ?_
  unfold b_law_draw
  refine st_ifD (a_cmp (a_pen2 f29 (a_of (v := .int 0) rfl (t_of (v := decide (t > 0)) rfl ⟨fun hb => ?_, fun hb => ?_⟩))))
  · refine st_assignD (a_bin (a_call (a_pen2 f29 (t_of (int_call t) (a_of (ev_varOf f30) (t_of (op_mod m0) ?_))))))
    have g29 : get (set σ 27 (.int (t % m))) 29 = some .pen := get_ne rfl f29
    have g30 : get (set σ 27 (.int (t % m))) 30 = some (.int m) := get_ne rfl f30
    refine st_pen2 g29 (a_bin (a_call (a_pen2 g29 (t_of (int_call t) (a_of (ev_varOf g30) (t_of (op_div m0 m1) ⟨rfl, rfl⟩)))))) ?_
    exact st_ret (ev_varOf (get_eq)) (.inl ⟨rfl, s, t / m, t % m, rfl, hs, by omega, Int.ediv_nonneg ht (by omega), rfl, Int.emod_nonneg _ (by omega), Int.emod_lt_of_pos _ m0⟩)
  · refine st_assignD (a_pen1 f29 ?_)
    have g29 : get (set σ 25 (.int s)) 29 = some .pen := get_ne rfl f29
    have g30 : get (set σ 25 (.int s)) 30 = some (.int m) := get_ne rfl f30
    have g25 : get (set σ 25 (.int s)) 25 = some (.int s) := get_eq
    generalize set σ 25 (.int s) = σ₁ at g29 g30 g25 ⊢
    refine st_pen1 g29 (ev_bin (ev_varOf g25) (b := .int 1) rfl rfl) ?_
    refine st_assignD ?_
    refine a_bin (a_of (v := .int (32203 * s + 6607)) (ev_bin (ev_bin (a := .int 32203) rfl (ev_varOf g25) (op_mul (by omega))) (b := .int 6607) rfl rfl) ?_)
    refine a_bin (a_call (a_call ?_))
    rw [ev]
    refine Tree.all_bind_of _ _ (a_pen0 g29 ?_)
    show (FT 2 [.list ((cs.map V.int).take 1)]).All (.known cs (s + 1) t) _
    rw [← List.map_take]
    refine t_of (sum_call _) (t_of (int_call _) (t_of (v := .int 1000003) rfl (t_of (op_mod (by decide)) (t_of (v := .int (32203 * s + 6607 + (cs.take 1).sum % 1000003)) rfl ?_))))
    generalize 32203 * s + 6607 + (cs.take 1).sum % 1000003 = z0
    have h29 : get (set σ₁ 23 (.int z0)) 29 = some .pen := get_ne rfl g29
    have h30 : get (set σ₁ 23 (.int z0)) 30 = some (.int m) := get_ne rfl g30
    have h25 : get (set σ₁ 23 (.int z0)) 25 = some (.int s) := get_ne rfl g25
    have h23 : get (set σ₁ 23 (.int z0)) 23 = some (.int z0) := get_eq
    dsimp only
    generalize set σ₁ 23 (.int z0) = σ₂ at h29 h30 h25 h23 ⊢
    have tail : ∀ (σ : Env) (z : Int), get σ 29 = some .pen → get σ 30 = some (.int m) → get σ 25 = some (.int s) → get σ 23 = some (.int z) → (exB FT GT 25 ⟨σ, Option.none⟩ (b_law_draw.drop 5)).All (.known cs (s + 1) t) fun q o => Drawn cs s m q (o.2.getD .none) := fun σ z k29 k30 k25 k23 => by
      have habs : ∀ k, ev FT GT (k + 2) σ (.call 3 [(.var 23)]) = .ret (.int (if z < 0 then -z else z)) := fun k => ev_call (evL_1 (ev_varOf k23)) rfl
      have h1018 : ∀ k, ev FT GT (k + 2) σ (.bin .Pow (.int 10) (.int 18)) = .ret (.int 1000000000000000000) := fun k => ev_bin (a := .int 10) (b := .int ((18 : Nat) : Int)) rfl rfl (op_pow (by decide) (by decide))
      refine st_ifD (a_and2 (a_cmp (a_of (ev_varOf k25) (a_call (a_pen0 k29 (t_of (len_call cs) (t_of (v := decide (s < (cs.length : Int))) rfl ⟨fun _ => ⟨fun e => (by cases e), fun _ => ?_⟩, fun _ => ?_⟩)))))))
      · exact draw_mix hs hs2 m0 k30 k25 k23 ht
      · refine a_cmp (a_of (habs _) (a_of (h1018 _) (t_of (v := decide ((if z < 0 then -z else z) ≥ 1000000000000000000)) rfl ⟨fun hb => ?_, fun _ => ?_⟩)))
        · have hge : (if z < 0 then -z else z) ≥ 1000000000000000000 := of_decide_eq_true hb
          have hgt : ∀ k, ev FT GT (k + 10) σ (.bin .Add (.bin .Mult (.int 2) (.bin .Sub (.call 3 [(.var 23)]) (.bin .Pow (.int 10) (.int 18)))) (.call 0 [(.cmp .Lt (.var 23) (.int 0))])) = .ret (.int (2 * ((if z < 0 then -z else z) - 1000000000000000000) + if decide (z < 0) then 1 else 0)) := fun k =>
            ev_bin (ev_bin (a := .int 2) rfl (ev_bin (ev_call (evL_1 (ev_varOf k23)) rfl) (h1018 _) rfl) (op_mul (.inl (by decide)))) (ev_call (evL_1 (ev_cmp (ev_varOf k23) (b := .int 0) (c := decide (z < 0)) rfl rfl)) (u := .int (if decide (z < 0) then 1 else 0)) rfl) rfl
          have hg0 : 0 ≤ 2 * ((if z < 0 then -z else z) - 1000000000000000000) + (if decide (z < 0) then 1 else 0 : Int) := by
            have : 0 ≤ (if decide (z < 0) then 1 else 0 : Int) := by split <;> decide
            omega
          refine st_assign (hgt _) ?_
          generalize 2 * ((if z < 0 then -z else z) - 1000000000000000000) + (if decide (z < 0) then 1 else 0 : Int) = g at hg0 ⊢
          have j29 : get (set σ 28 (.int g)) 29 = some .pen := get_ne rfl k29
          have j30 : get (set σ 28 (.int g)) 30 = some (.int m) := get_ne rfl k30
          have j28 : get (set σ 28 (.int g)) 28 = some (.int g) := get_eq
          refine st_pen2 j29 (a_of (ev_bin (st_call0 (ev_varOf j28)) (ev_varOf j30) (op_div m0 m1)) ⟨rfl, rfl⟩) ?_
          exact st_ret (ev_bin (st_call0 (ev_varOf j28)) (ev_varOf j30) (op_mod m0)) (.inl ⟨rfl, s + 1, g / m, g % m, rfl, by omega, Int.le_refl _, Int.ediv_nonneg hg0 (by omega), rfl, Int.emod_nonneg _ (by omega), Int.emod_lt_of_pos _ m0⟩)
        · exact draw_mix hs hs2 m0 k30 k25 k23 ht
    refine st_ifD (a_cmp (a_pen0 h29 (a_of (v := .list []) rfl (t_of (cmp_ne_nil cs) ⟨fun hb => ?_, fun _ => ?_⟩))))
    · have hne : cs ≠ [] := by simpa using hb
      have hpos : 0 < cs.length := List.length_pos_iff.mpr hne
      obtain ⟨i, hi, hcast⟩ : ∃ i : Nat, i < cs.length ∧ s % (cs.length : Int) = (i : Int) := by
        have h1 := Int.emod_lt_of_pos s (show (0 : Int) < (cs.length : Int) by omega)
        have h2 := Int.emod_nonneg s (show (cs.length : Int) ≠ 0 by omega)
        exact ⟨(s % (cs.length : Int)).toNat, by omega, by omega⟩
      refine st_assignD ?_
      rw [ev]
      refine Tree.all_bind_of _ _ (a_pen0 h29 ?_)
      refine Tree.all_bind_of _ _ (a_bin (a_of (st_call0 (ev_varOf h25)) (a_call (a_pen0 h29 (t_of (len_call cs) (t_of (op_mod (by omega)) ?_))))))
      rw [hcast]
      show (nthV (cs.map V.int) (i : Int)).All (.known cs (s + 1) t) _
      rw [nth_at (cs.map V.int) i (by rw [List.length_map]; exact hi) (by rw [List.length_map]; omega), List.getElem_map]
      refine Or.inr ⟨rfl, ?_⟩
      exact tail (set σ₂ 23 (.int cs[i])) cs[i] (get_ne rfl h29) (get_ne rfl h30) (get_ne rfl h25) (get_eq)
    · exact tail _ _ h29 h30 h25 h23
end Mine

set_option autoImplicit false
namespace Mine
open PySem PySem.W PySem.Calls PyProof.Rows PyProof
set_option maxRecDepth 100000

noncomputable def globOk (K : Frag) (g : Nat) (v : Value) : Bool := nsIn K mainGlobals (fnm g) == some (some v)
noncomputable def noneOk (K : Frag) (g : Nat) : Bool := nsIn K mainGlobals (fnm g) == some none
noncomputable def intOk (K : Frag) (g : Nat) (i : Int) : Bool := match nsIn K mainGlobals (fnm g) with
  | some (some (.int j _)) => decide (j = i)
  | _ => false
noncomputable def nameOk (K : Frag) (g : Nat) (a : Addr) : Bool := globOk K g (.ref a) && keepIn K (.ref a)
noncomputable def checks : List (Frag → Bool) := [
  fun K => noneOk K 0,
  fun K => noneOk K 1,
  fun K => noneOk K 2,
  fun K => noneOk K 3,
  fun K => noneOk K 4,
  fun K => noneOk K 5,
  fun K => noneOk K 6,
  fun K => noneOk K 7,
  fun K => noneOk K 8,
  fun K => noneOk K 9,
  fun K => intOk K 10 M64,
  fun K => intOk K 11 M32,
  fun K => nameOk K 12 171,
  fun K => tnumOk K 171 65,
  fun K => nameOk K 13 28,
  fun K => defOk K 13 28 [0] g_ones l_ones b_ones,
  fun K => nameOk K 14 36,
  fun K => dfltOk K 14 36 [1] 0 64 g_wrap l_wrap b_wrap,
  fun K => nameOk K 15 44,
  fun K => dfltOk K 15 44 [1] 0 64 g_signed l_signed b_signed,
  fun K => nameOk K 16 51,
  fun K => defOk K 16 51 [1] g_bit_count l_bit_count b_bit_count,
  fun K => keepIn K (.ref 72),
  fun K => staticOk K 171 (fnm 17) 72,
  fun K => defOk K 17 72 [1] g_Tnum_const l_Tnum_const b_Tnum_const,
  fun K => keepIn K (.ref 82),
  fun K => staticOk K 171 (fnm 18) 82,
  fun K => defOk K 18 82 [] g_Tnum_unknown l_Tnum_unknown b_Tnum_unknown,
  fun K => keepIn K (.ref 92),
  fun K => staticOk K 171 (fnm 19) 92,
  fun K => defOk K 19 92 [6, 7] g_Tnum_span l_Tnum_span b_Tnum_span,
  fun K => keepIn K (.ref 102),
  fun K => methOk K 171 (fnm 20) 102,
  fun K => defOk K 20 102 [8, 1] g_Tnum_contains l_Tnum_contains b_Tnum_contains,
  fun K => keepIn K (.ref 109),
  fun K => methOk K 171 (fnm 21) 109,
  fun K => defOk K 21 109 [8] g_Tnum_is_const l_Tnum_is_const b_Tnum_is_const,
  fun K => keepIn K (.ref 116),
  fun K => methOk K 171 (fnm 22) 116,
  fun K => defOk K 22 116 [8] g_Tnum_least l_Tnum_least b_Tnum_least,
  fun K => keepIn K (.ref 123),
  fun K => methOk K 171 (fnm 23) 123,
  fun K => defOk K 23 123 [8] g_Tnum_most l_Tnum_most b_Tnum_most,
  fun K => keepIn K (.ref 131),
  fun K => methOk K 171 (fnm 24) 131,
  fun K => dfltOk K 24 131 [8] 0 64 g_Tnum_signed_least l_Tnum_signed_least b_Tnum_signed_least,
  fun K => keepIn K (.ref 139),
  fun K => methOk K 171 (fnm 25) 139,
  fun K => dfltOk K 25 139 [8] 0 64 g_Tnum_signed_most l_Tnum_signed_most b_Tnum_signed_most,
  fun K => keepIn K (.ref 146),
  fun K => methOk K 171 (fnm 26) 146,
  fun K => defOk K 26 146 [8, 9] g_Tnum_is_aligned l_Tnum_is_aligned b_Tnum_is_aligned,
  fun K => keepIn K (.ref 153),
  fun K => methOk K 171 (fnm 27) 153,
  fun K => defOk K 27 153 [8] g_Tnum_free_bits l_Tnum_free_bits b_Tnum_free_bits,
  fun K => keepIn K (.ref 160),
  fun K => methOk K 171 (fnm 28) 160,
  fun K => defOk K 28 160 [8] g_Tnum_told l_Tnum_told b_Tnum_told,
  fun K => nameOk K 29 182,
  fun K => defOk K 29 182 [12, 13] g_without l_without b_without,
  fun K => nameOk K 30 189,
  fun K => defOk K 30 189 [16, 17] g_tnum_add l_tnum_add b_tnum_add,
  fun K => nameOk K 31 196,
  fun K => defOk K 31 196 [16, 17] g_tnum_sub l_tnum_sub b_tnum_sub,
  fun K => nameOk K 32 203,
  fun K => defOk K 32 203 [16] g_tnum_neg l_tnum_neg b_tnum_neg,
  fun K => nameOk K 33 210,
  fun K => defOk K 33 210 [16, 17] g_tnum_and l_tnum_and b_tnum_and,
  fun K => nameOk K 34 217,
  fun K => defOk K 34 217 [16, 17] g_tnum_or l_tnum_or b_tnum_or,
  fun K => nameOk K 35 224,
  fun K => defOk K 35 224 [16, 17] g_tnum_xor l_tnum_xor b_tnum_xor,
  fun K => nameOk K 36 231,
  fun K => defOk K 36 231 [16, 19] g_tnum_lsh l_tnum_lsh b_tnum_lsh,
  fun K => nameOk K 37 238,
  fun K => defOk K 37 238 [16, 19] g_tnum_rsh l_tnum_rsh b_tnum_rsh,
  fun K => nameOk K 38 246,
  fun K => dfltOk K 38 246 [16, 19] 0 64 g_tnum_arsh l_tnum_arsh b_tnum_arsh,
  fun K => nameOk K 39 253,
  fun K => nameOk K 40 260,
  fun K => defOk K 40 260 [16, 17] g_tnum_mul l_tnum_mul b_tnum_mul,
  fun K => nameOk K 41 267,
  fun K => defOk K 41 267 [16, 17] g_tnum_meet l_tnum_meet b_tnum_meet,
  fun K => nameOk K 42 274,
  fun K => defOk K 42 274 [16, 17] g_tnum_join l_tnum_join b_tnum_join,
  fun K => nameOk K 43 281,
  fun K => defOk K 43 281 [16, 17] g_tnum_within l_tnum_within b_tnum_within,
  fun K => nameOk K 44 288,
  fun K => defOk K 44 288 [16, 9] g_tnum_cast l_tnum_cast b_tnum_cast,
  fun K => nameOk K 45 295,
  fun K => defOk K 45 295 [16] g_tnum_low32 l_tnum_low32 b_tnum_low32,
  fun K => nameOk K 46 302,
  fun K => defOk K 46 302 [16, 2] g_tnum_with_low32 l_tnum_with_low32 b_tnum_with_low32,
  fun K => nameOk K 47 309,
  fun K => defOk K 47 309 [16, 0] g_tnum_signed l_tnum_signed b_tnum_signed,
  fun K => nameOk K 48 316,
  fun K => defOk K 48 316 [16, 9] g_tnum_turned l_tnum_turned b_tnum_turned,
  fun K => nameOk K 49 323,
  fun K => defOk K 49 323 [] g_law_all l_law_all b_law_all,
  fun K => nameOk K 50 330,
  fun K => defOk K 50 330 [] g_law_half l_law_half b_law_half,
  fun K => nameOk K 51 335,
  fun K => defOk K 51 335 [24] g_law_pen l_law_pen b_law_pen,
  fun K => nameOk K 52 342,
  fun K => defOk K 52 342 [29, 30] g_law_draw l_law_draw b_law_draw,
  fun K => nameOk K 53 349,
  fun K => defOk K 53 349 [29, 31] g_law_pick l_law_pick b_law_pick,
  fun K => nameOk K 54 356,
  fun K => defOk K 54 356 [29] g_law_worth l_law_worth b_law_worth,
  fun K => nameOk K 55 363,
  fun K => defOk K 55 363 [29, 37] g_law_pair l_law_pair b_law_pair,
  fun K => nameOk K 56 368,
  fun K => defOk K 56 368 [39] g_law_members l_law_members b_law_members,
  fun K => nameOk K 57 375,
  fun K => defOk K 57 375 [31] g_law_best l_law_best b_law_best,
  fun K => nameOk K 58 382,
  fun K => defOk K 58 382 [1, 0] g_law_signed l_law_signed b_law_signed,
  fun K => nameOk K 59 387,
  fun K => defOk K 59 387 [1, 9] g_law_turned l_law_turned b_law_turned,
  fun K => nameOk K 60 392,
  fun K => defOk K 60 392 [38, 48, 49, 50] g_law_two_right l_law_two_right b_law_two_right,
  fun K => nameOk K 61 397,
  fun K => defOk K 61 397 [29, 38, 31] g_law_one_right l_law_one_right b_law_one_right,
  fun K => nameOk K 62 402,
  fun K => defOk K 62 402 [29, 38, 31] g_law_ends_right l_law_ends_right b_law_ends_right,
  fun K => nameOk K 63 409,
  fun K => defOk K 63 409 [29] g_law_span_right l_law_span_right b_law_span_right,
  fun K => nameOk K 64 416,
  fun K => defOk K 64 416 [24] g_law l_law b_law]
noncomputable def checkAll (K : Frag) : Bool := checks.all (· K)
theorem check_at {K : Frag} (h : checkAll K = true) (i : Nat) (hi : i < checks.length) : checks[i] K = true := List.all_eq_true.mp h _ (List.getElem_mem hi)

structure Step (c : Cx) (k : Nat) : Prop where
  call : nameId k = true → ∃ v, c.Glob k v ∧ KeptBy c v ∧ CallSpec c (k + 1) v (FT k)
  static : staticId k = true → ∃ f, KeptBy c f ∧ CallSpec c (k + 1) f (FT k) ∧ c.Glob 12 (.ref c.C) ∧
    ∀ (A : Around) (s : Shared) (pl : Sem Bool) (Q : Value × List Value → Shared → Prop) (E : Value → Shared → Prop), (∀ b o, c.base.get? b = some o → s.heap.get? b = some o) → (∀ tk, Q (f, []) { s with toks := tk }) →
      wpAny (model c.prog c.w) A (getMethod (.ref c.C) (fnm k) pl) Q E s
  meth : methId k = true → ∃ f, KeptBy c f ∧ CallSpec c (k + 1) f (FT k) ∧
    ∀ (A : Around) (φ : Fz) (s : Shared) (pn : Pn) (x m : Int) (o : Value) (pl : Sem Bool) (Q : Value × List Value → Shared → Prop) (E : Value → Shared → Prop), St c φ s pn → Is c φ (.tnum x m) o → (∀ tk, Q (f, [o]) { s with toks := tk }) →
      wpAny (model c.prog c.w) A (getMethod o (fnm k) pl) Q E s

section
variable {c : Cx}
theorem CallSpec.up {r r' : Nat} {v : Value} {D : List V → Tree V} (h : CallSpec c r v D) (hr : r ≤ r') : CallSpec c r' v D :=
  fun A φ s pn us vs K Q E R S i hD P => h A φ s pn us vs K Q E (R.le hr) S i hD P
theorem FunsOk.next {k : Nat} (FO : FunsOk c k FT GT) (S : Step c k) : FunsOk c (k + 1) FT GT where
  call g hg hn := by
    by_cases e : g = k
    · subst e; exact S.call hn
    · obtain ⟨v, a, b, d⟩ := FO.call g (by omega) hn
      exact ⟨v, a, b, d.up (Nat.le_succ _)⟩
  const := FO.const
  static g hg hn := by
    by_cases e : g = k
    · subst e; exact S.static hn
    · obtain ⟨v, a, b, d⟩ := FO.static g (by omega) hn
      exact ⟨v, a, b.up (Nat.le_succ _), d⟩
  meth g hg hn := by
    by_cases e : g = k
    · subst e; exact S.meth hn
    · obtain ⟨v, a, b, d⟩ := FO.meth g (by omega) hn
      exact ⟨v, a, b.up (Nat.le_succ _), d⟩
  attr := FO.attr
theorem spec_none (r : Nat) (v : Value) : CallSpec c r v fun _ => .fail := fun _ _ _ _ _ _ _ _ _ _ _ _ h _ => h.elim
theorem glob_of {g : Nat} {v : Value} (h : globOk c.K g v = true) : c.Glob g v := .inl (mg_of c.X c.G (beq_iff_eq.mp h))
theorem kept_of {v : Value} (h : keepIn c.K v = true) : KeptBy c v := fun _ hb => keeps_K h _ (c.X.keeps hb)
theorem name_of {g : Nat} {a : Addr} (h : nameOk c.K g a = true) : c.Glob g (.ref a) ∧ KeptBy c (.ref a) := by
  unfold nameOk at h
  rw [Bool.and_eq_true] at h
  exact ⟨glob_of h.1, kept_of h.2⟩
theorem step_name {g : Nat} {v : Value} (h1 : staticId g = false) (h2 : methId g = false) (hg : c.Glob g v) (hk : KeptBy c v) (hs : CallSpec c (g + 1) v (FT g)) : Step c g :=
  ⟨fun _ => ⟨v, hg, hk, hs⟩, fun e => (by rw [h1] at e; cases e), fun e => (by rw [h2] at e; cases e)⟩
theorem step_const {g : Nat} (h : constId g = true) (h1 : staticId g = false) (h2 : methId g = false) : Step c g :=
  ⟨fun e => (by unfold nameId at e; rw [h] at e; cases e), fun e => (by rw [h1] at e; cases e), fun e => (by rw [h2] at e; cases e)⟩
theorem step_def {g : Nat} {a : Addr} (h1 : staticId g = false) (h2 : methId g = false) (h : nameOk c.K g a = true) (hs : CallSpec c (g + 1) (.ref a) (FT g)) : Step c g :=
  step_name h1 h2 (name_of h).1 (name_of h).2 hs
theorem step_built {g : Nat} {v : Value} (mb_is : ∀ x : Str, x ≠ "__name__" → c.mb x = bootBuiltins x) (h1 : staticId g = false) (h2 : methId g = false) (h : noneOk c.K g = true) (hv : bootBuiltins (fnm g) = some v) (hn : (fnm g == ("__name__" : Str)) = false) (hk : KeptBy c v) (hs : CallSpec c (g + 1) v (FT g)) : Step c g :=
  step_name h1 h2 (.inr ⟨mg_none_of c.X c.G (beq_iff_eq.mp h), (mb_is _ (by simpa using hn)).trans hv⟩) hk hs
theorem kept_machine {v : Value} (h : (match v with | .ref _ => false | _ => true) = true) : KeptBy c v := fun hh _ => by
  refine ⟨.machine, .inr (.inl rfl), ?_⟩
  cases v with
  | ref a => cases h
  | _ => exact fun A Q E s _ q => wpAny_pure q
theorem step_static {g : Nat} {a : Addr} (h1 : nameId g = false) (h2 : methId g = false) (hC : c.Glob 12 (.ref c.C)) (hk : keepIn c.K (.ref a) = true) (hs : CallSpec c (g + 1) (.ref a) (FT g)) (hm : staticOk c.K c.C (fnm g) a = true) : Step c g :=
  ⟨fun e => (by rw [h1] at e; cases e), fun _ => ⟨.ref a, kept_of hk, hs, hC, static_of hm⟩, fun e => (by rw [h2] at e; cases e)⟩
theorem step_meth {g : Nat} {a fI : Addr} (TK : TnumK c.K c.C fI) (h1 : nameId g = false) (h2 : staticId g = false) (hk : keepIn c.K (.ref a) = true) (hs : CallSpec c (g + 1) (.ref a) (FT g)) (hm : methOk c.K c.C (fnm g) a = true) : Step c g :=
  ⟨fun e => (by rw [h1] at e; cases e), fun e => (by rw [h2] at e; cases e), fun _ => ⟨.ref a, kept_of hk, hs, meth_of TK hm⟩⟩
theorem const_of {g : Nat} {i : Int} (h : intOk c.K g i = true) : ∃ t, c.Glob g (.int i t) := by
  unfold intOk at h
  split at h
  · rename_i j t hj
    have := of_decide_eq_true h
    subst this
    exact ⟨t, .inl (mg_of c.X c.G hj)⟩
  · cases h
/-- a draw, whatever the pen holds -/
theorem spec_draw {a : Addr} (hok : defOk c.K 52 a [29, 30] g_law_draw l_law_draw b_law_draw = true) (FO : FunsOk c 52 FT GT) : CallSpec c 53 (.ref a) (FT 52) := by
  have base := def_plain hok FO 30 (fun us => guard (us.length == 2) (runB FT GT 30 b_law_draw ([29, 30].zip us))) fun us pn K h => by
    obtain ⟨h1, h2⟩ := guard_all h
    exact ⟨by simpa using h1, Tree.all_mono _ _ h2 fun _ _ k => .inl k⟩
  intro A φ s pn us vs K Q E R S i h P
  have h' : (dDraw us).All pn K := h
  clear h
  unfold dDraw at h'
  split at h'
  · rename_i m
    have h := h'
    clear h'
    obtain ⟨hg, h⟩ := guard_all h
    simp only [Bool.and_eq_true, decide_eq_true_eq] at hg
    cases pn with
    | none => simp only [Tree.All, Tree.upN, Tree.knP] at h
    | known => simp only [Tree.All, Tree.upN, Tree.knP] at h
    | upto n =>
      simp only [Tree.All, Tree.upN, Tree.knP] at h
      obtain ⟨m0, hn, hd⟩ := h
      have hp := S.pen
      simp only [PenOk] at hp
      obtain ⟨cs, sp, k, h1, h2, h3, h4, h5⟩ := hp
      have S' : St c φ s (.known cs sp k) := ⟨S.sub, S.bas, h1, S.fresh⟩
      refine base A φ s (.known cs sp k) _ vs (Drawn cs sp m) Q E R S' i (draw_run h2 h3 (by omega) h5 m0 hg.2) fun v u φ' s' pn' hu x S'' iu => ?_
      obtain ⟨sp', k', d, rfl, q1, q2, q3, rfl, q4, q5⟩ := hu
      have hp' := S''.pen
      simp only [PenOk] at hp'
      exact P v _ φ' s' (.upto (n + 1)) (hd d q4 q5) x ⟨S''.sub, S''.bas, ⟨cs, sp', k', hp', h2, q1, by push_cast; omega, q3⟩, S''.fresh⟩ iu
  · simp only [Tree.All, Tree.upN, Tree.knP] at h'
end

section
variable {c : Cx} (CH : checkAll c.K = true) (hC : c.C = 171) (mb_is : ∀ x : Str, x ≠ "__name__" → c.mb x = bootBuiltins x)
include CH hC
theorem the_tnum : TnumK c.K c.C 65 := hC ▸ tnumK_of (check_at CH 13 (by decide))
theorem the_glob : c.Glob 12 (.ref c.C) := hC ▸ (name_of (check_at CH 12 (by decide))).1
omit hC in
theorem the_consts : ∀ g, constId g = true → ∃ t, c.Glob g (.int (GT g) t) := by
  intro g hg
  simp only [constId, Bool.or_eq_true, beq_iff_eq] at hg
  rcases hg with rfl | rfl
  · exact const_of (check_at CH 10 (by decide))
  · exact const_of (check_at CH 11 (by decide))
theorem f0 : FunsOk c 0 FT GT := ⟨fun g h => absurd h (Nat.not_lt_zero _), the_consts CH, fun g h => absurd h (Nat.not_lt_zero _), fun g h => absurd h (Nat.not_lt_zero _), attr_ok (the_tnum CH hC)⟩
include mb_is
theorem f1 : FunsOk c 1 FT GT := (f0 CH hC).next (step_built mb_is rfl rfl (check_at CH 0 (by decide)) (v := .type "int") (by kernel_rfl) (by decide +kernel) (kept_machine rfl) spec_int)
theorem f2 : FunsOk c 2 FT GT := (f1 CH hC mb_is).next (step_built mb_is rfl rfl (check_at CH 1 (by decide)) (v := .builtin "len") (by kernel_rfl) (by decide +kernel) (kept_machine rfl) spec_len)
theorem f3 : FunsOk c 3 FT GT := (f2 CH hC mb_is).next (step_built mb_is rfl rfl (check_at CH 2 (by decide)) (v := .builtin "sum") (by kernel_rfl) (by decide +kernel) (kept_machine rfl) spec_sum)
theorem f4 : FunsOk c 4 FT GT := (f3 CH hC mb_is).next (step_built mb_is rfl rfl (check_at CH 3 (by decide)) (v := .builtin "abs") (by kernel_rfl) (by decide +kernel) (kept_machine rfl) spec_abs)
theorem f5 : FunsOk c 5 FT GT := (f4 CH hC mb_is).next (step_built mb_is rfl rfl (check_at CH 4 (by decide)) (v := .builtin "min") (by kernel_rfl) (by decide +kernel) (kept_machine rfl) spec_min)
theorem f6 : FunsOk c 6 FT GT := (f5 CH hC mb_is).next (step_built mb_is rfl rfl (check_at CH 5 (by decide)) (v := .builtin "max") (by kernel_rfl) (by decide +kernel) (kept_machine rfl) spec_max)
theorem f7 : FunsOk c 7 FT GT := (f6 CH hC mb_is).next (step_built mb_is rfl rfl (check_at CH 6 (by decide)) (v := .builtin "all") (by kernel_rfl) (by decide +kernel) (kept_machine rfl) spec_all)
theorem f8 : FunsOk c 8 FT GT := (f7 CH hC mb_is).next (step_built mb_is rfl rfl (check_at CH 7 (by decide)) (v := .type "range") (by kernel_rfl) (by decide +kernel) (kept_machine rfl) spec_range)
theorem f9 : FunsOk c 9 FT GT := (f8 CH hC mb_is).next (step_built mb_is rfl rfl (check_at CH 8 (by decide)) (v := .type "list") (by kernel_rfl) (by decide +kernel) (kept_machine rfl) spec_list)
theorem f10 : FunsOk c 10 FT GT := (f9 CH hC mb_is).next (step_built mb_is rfl rfl (check_at CH 9 (by decide)) (v := .builtin "sorted") (by kernel_rfl) (by decide +kernel) (kept_machine rfl) spec_sorted)
theorem f11 : FunsOk c 11 FT GT := (f10 CH hC mb_is).next (step_const rfl rfl rfl)
theorem f12 : FunsOk c 12 FT GT := (f11 CH hC mb_is).next (step_const rfl rfl rfl)
theorem f13 : FunsOk c 13 FT GT := (f12 CH hC mb_is).next (step_name rfl rfl (the_glob CH hC) (hC ▸ (name_of (check_at CH 12 (by decide))).2) (spec_tnum (the_tnum CH hC)))
theorem f14 : FunsOk c 14 FT GT := (f13 CH hC mb_is).next (step_def rfl rfl (check_at CH 14 (by decide)) (def_plain (check_at CH 15 (by decide)) (f13 CH hC mb_is) 30 (FT 13) sim_ones))
theorem f15 : FunsOk c 15 FT GT := (f14 CH hC mb_is).next (step_def rfl rfl (check_at CH 16 (by decide)) (def_dflt (check_at CH 17 (by decide)) (f14 CH hC mb_is) 30 (FT 14) sim_wrap))
theorem f16 : FunsOk c 16 FT GT := (f15 CH hC mb_is).next (step_def rfl rfl (check_at CH 18 (by decide)) (def_dflt (check_at CH 19 (by decide)) (f15 CH hC mb_is) 30 (FT 15) sim_signed))
theorem f17 : FunsOk c 17 FT GT := (f16 CH hC mb_is).next (step_def rfl rfl (check_at CH 20 (by decide)) (def_plain (check_at CH 21 (by decide)) (f16 CH hC mb_is) 30 (FT 16) sim_bit_count))
theorem f18 : FunsOk c 18 FT GT := (f17 CH hC mb_is).next (step_static rfl rfl (the_glob CH hC) (check_at CH 22 (by decide)) (def_plain (check_at CH 24 (by decide)) (f17 CH hC mb_is) 30 (FT 17) sim_Tnum_const) (hC ▸ check_at CH 23 (by decide)))
theorem f19 : FunsOk c 19 FT GT := (f18 CH hC mb_is).next (step_static rfl rfl (the_glob CH hC) (check_at CH 25 (by decide)) (def_plain (check_at CH 27 (by decide)) (f18 CH hC mb_is) 30 (FT 18) sim_Tnum_unknown) (hC ▸ check_at CH 26 (by decide)))
theorem f20 : FunsOk c 20 FT GT := (f19 CH hC mb_is).next (step_static rfl rfl (the_glob CH hC) (check_at CH 28 (by decide)) (def_plain (check_at CH 30 (by decide)) (f19 CH hC mb_is) 30 (FT 19) sim_Tnum_span) (hC ▸ check_at CH 29 (by decide)))
theorem f21 : FunsOk c 21 FT GT := (f20 CH hC mb_is).next (step_meth (the_tnum CH hC) rfl rfl (check_at CH 31 (by decide)) (def_plain (check_at CH 33 (by decide)) (f20 CH hC mb_is) 30 (FT 20) sim_Tnum_contains) (hC ▸ check_at CH 32 (by decide)))
theorem f22 : FunsOk c 22 FT GT := (f21 CH hC mb_is).next (step_meth (the_tnum CH hC) rfl rfl (check_at CH 34 (by decide)) (def_plain (check_at CH 36 (by decide)) (f21 CH hC mb_is) 30 (FT 21) sim_Tnum_is_const) (hC ▸ check_at CH 35 (by decide)))
theorem f23 : FunsOk c 23 FT GT := (f22 CH hC mb_is).next (step_meth (the_tnum CH hC) rfl rfl (check_at CH 37 (by decide)) (def_plain (check_at CH 39 (by decide)) (f22 CH hC mb_is) 30 (FT 22) sim_Tnum_least) (hC ▸ check_at CH 38 (by decide)))
theorem f24 : FunsOk c 24 FT GT := (f23 CH hC mb_is).next (step_meth (the_tnum CH hC) rfl rfl (check_at CH 40 (by decide)) (def_plain (check_at CH 42 (by decide)) (f23 CH hC mb_is) 30 (FT 23) sim_Tnum_most) (hC ▸ check_at CH 41 (by decide)))
theorem f25 : FunsOk c 25 FT GT := (f24 CH hC mb_is).next (step_meth (the_tnum CH hC) rfl rfl (check_at CH 43 (by decide)) (def_dflt (check_at CH 45 (by decide)) (f24 CH hC mb_is) 30 (FT 24) fun us pn K h => .inl (sim_Tnum_signed_least us pn K h)) (hC ▸ check_at CH 44 (by decide)))
theorem f26 : FunsOk c 26 FT GT := (f25 CH hC mb_is).next (step_meth (the_tnum CH hC) rfl rfl (check_at CH 46 (by decide)) (def_dflt (check_at CH 48 (by decide)) (f25 CH hC mb_is) 30 (FT 25) fun us pn K h => .inl (sim_Tnum_signed_most us pn K h)) (hC ▸ check_at CH 47 (by decide)))
theorem f27 : FunsOk c 27 FT GT := (f26 CH hC mb_is).next (step_meth (the_tnum CH hC) rfl rfl (check_at CH 49 (by decide)) (def_plain (check_at CH 51 (by decide)) (f26 CH hC mb_is) 30 (FT 26) sim_Tnum_is_aligned) (hC ▸ check_at CH 50 (by decide)))
theorem f28 : FunsOk c 28 FT GT := (f27 CH hC mb_is).next (step_meth (the_tnum CH hC) rfl rfl (check_at CH 52 (by decide)) (def_plain (check_at CH 54 (by decide)) (f27 CH hC mb_is) 30 (FT 27) sim_Tnum_free_bits) (hC ▸ check_at CH 53 (by decide)))
theorem f29 : FunsOk c 29 FT GT := (f28 CH hC mb_is).next (step_meth (the_tnum CH hC) rfl rfl (check_at CH 55 (by decide)) (def_plain (check_at CH 57 (by decide)) (f28 CH hC mb_is) 30 (FT 28) sim_Tnum_told) (hC ▸ check_at CH 56 (by decide)))
theorem f30 : FunsOk c 30 FT GT := (f29 CH hC mb_is).next (step_def rfl rfl (check_at CH 58 (by decide)) (def_plain (check_at CH 59 (by decide)) (f29 CH hC mb_is) 30 (FT 29) sim_without))
theorem f31 : FunsOk c 31 FT GT := (f30 CH hC mb_is).next (step_def rfl rfl (check_at CH 60 (by decide)) (def_plain (check_at CH 61 (by decide)) (f30 CH hC mb_is) 30 (FT 30) sim_tnum_add))
theorem f32 : FunsOk c 32 FT GT := (f31 CH hC mb_is).next (step_def rfl rfl (check_at CH 62 (by decide)) (def_plain (check_at CH 63 (by decide)) (f31 CH hC mb_is) 30 (FT 31) sim_tnum_sub))
theorem f33 : FunsOk c 33 FT GT := (f32 CH hC mb_is).next (step_def rfl rfl (check_at CH 64 (by decide)) (def_plain (check_at CH 65 (by decide)) (f32 CH hC mb_is) 30 (FT 32) sim_tnum_neg))
theorem f34 : FunsOk c 34 FT GT := (f33 CH hC mb_is).next (step_def rfl rfl (check_at CH 66 (by decide)) (def_plain (check_at CH 67 (by decide)) (f33 CH hC mb_is) 30 (FT 33) sim_tnum_and))
theorem f35 : FunsOk c 35 FT GT := (f34 CH hC mb_is).next (step_def rfl rfl (check_at CH 68 (by decide)) (def_plain (check_at CH 69 (by decide)) (f34 CH hC mb_is) 30 (FT 34) sim_tnum_or))
theorem f36 : FunsOk c 36 FT GT := (f35 CH hC mb_is).next (step_def rfl rfl (check_at CH 70 (by decide)) (def_plain (check_at CH 71 (by decide)) (f35 CH hC mb_is) 30 (FT 35) sim_tnum_xor))
theorem f37 : FunsOk c 37 FT GT := (f36 CH hC mb_is).next (step_def rfl rfl (check_at CH 72 (by decide)) (def_plain (check_at CH 73 (by decide)) (f36 CH hC mb_is) 30 (FT 36) sim_tnum_lsh))
theorem f38 : FunsOk c 38 FT GT := (f37 CH hC mb_is).next (step_def rfl rfl (check_at CH 74 (by decide)) (def_plain (check_at CH 75 (by decide)) (f37 CH hC mb_is) 30 (FT 37) sim_tnum_rsh))
theorem f39 : FunsOk c 39 FT GT := (f38 CH hC mb_is).next (step_def rfl rfl (check_at CH 76 (by decide)) (def_dflt (check_at CH 77 (by decide)) (f38 CH hC mb_is) 30 (FT 38) sim_tnum_arsh))
theorem f40 : FunsOk c 40 FT GT := (f39 CH hC mb_is).next (step_def rfl rfl (check_at CH 78 (by decide)) (spec_none _ _))
theorem f41 : FunsOk c 41 FT GT := (f40 CH hC mb_is).next (step_def rfl rfl (check_at CH 79 (by decide)) (def_plain (check_at CH 80 (by decide)) (f40 CH hC mb_is) 30 (FT 40) sim_tnum_mul))
theorem f42 : FunsOk c 42 FT GT := (f41 CH hC mb_is).next (step_def rfl rfl (check_at CH 81 (by decide)) (def_plain (check_at CH 82 (by decide)) (f41 CH hC mb_is) 30 (FT 41) sim_tnum_meet))
theorem f43 : FunsOk c 43 FT GT := (f42 CH hC mb_is).next (step_def rfl rfl (check_at CH 83 (by decide)) (def_plain (check_at CH 84 (by decide)) (f42 CH hC mb_is) 30 (FT 42) sim_tnum_join))
theorem f44 : FunsOk c 44 FT GT := (f43 CH hC mb_is).next (step_def rfl rfl (check_at CH 85 (by decide)) (def_plain (check_at CH 86 (by decide)) (f43 CH hC mb_is) 30 (FT 43) sim_tnum_within))
theorem f45 : FunsOk c 45 FT GT := (f44 CH hC mb_is).next (step_def rfl rfl (check_at CH 87 (by decide)) (def_plain (check_at CH 88 (by decide)) (f44 CH hC mb_is) 30 (FT 44) sim_tnum_cast))
theorem f46 : FunsOk c 46 FT GT := (f45 CH hC mb_is).next (step_def rfl rfl (check_at CH 89 (by decide)) (def_plain (check_at CH 90 (by decide)) (f45 CH hC mb_is) 30 (FT 45) sim_tnum_low32))
theorem f47 : FunsOk c 47 FT GT := (f46 CH hC mb_is).next (step_def rfl rfl (check_at CH 91 (by decide)) (def_plain (check_at CH 92 (by decide)) (f46 CH hC mb_is) 30 (FT 46) sim_tnum_with_low32))
theorem f48 : FunsOk c 48 FT GT := (f47 CH hC mb_is).next (step_def rfl rfl (check_at CH 93 (by decide)) (def_plain (check_at CH 94 (by decide)) (f47 CH hC mb_is) 30 (FT 47) sim_tnum_signed))
theorem f49 : FunsOk c 49 FT GT := (f48 CH hC mb_is).next (step_def rfl rfl (check_at CH 95 (by decide)) (def_plain (check_at CH 96 (by decide)) (f48 CH hC mb_is) 30 (FT 48) sim_tnum_turned))
theorem f50 : FunsOk c 50 FT GT := (f49 CH hC mb_is).next (step_def rfl rfl (check_at CH 97 (by decide)) (def_plain (check_at CH 98 (by decide)) (f49 CH hC mb_is) 30 (FT 49) sim_law_all))
theorem f51 : FunsOk c 51 FT GT := (f50 CH hC mb_is).next (step_def rfl rfl (check_at CH 99 (by decide)) (def_plain (check_at CH 100 (by decide)) (f50 CH hC mb_is) 30 (FT 50) sim_law_half))
theorem f52 : FunsOk c 52 FT GT := (f51 CH hC mb_is).next (step_def rfl rfl (check_at CH 101 (by decide)) (spec_none _ _))
theorem f53 : FunsOk c 53 FT GT := (f52 CH hC mb_is).next (step_def rfl rfl (check_at CH 103 (by decide)) (spec_draw (check_at CH 104 (by decide)) (f52 CH hC mb_is)))
theorem f54 : FunsOk c 54 FT GT := (f53 CH hC mb_is).next (step_def rfl rfl (check_at CH 105 (by decide)) (def_plain (check_at CH 106 (by decide)) (f53 CH hC mb_is) 30 (FT 53) sim_law_pick))
theorem f55 : FunsOk c 55 FT GT := (f54 CH hC mb_is).next (step_def rfl rfl (check_at CH 107 (by decide)) (def_plain (check_at CH 108 (by decide)) (f54 CH hC mb_is) 30 (FT 54) sim_law_worth))
theorem f56 : FunsOk c 56 FT GT := (f55 CH hC mb_is).next (step_def rfl rfl (check_at CH 109 (by decide)) (def_plain (check_at CH 110 (by decide)) (f55 CH hC mb_is) 30 (FT 55) sim_law_pair))
theorem f57 : FunsOk c 57 FT GT := (f56 CH hC mb_is).next (step_def rfl rfl (check_at CH 111 (by decide)) (def_plain (check_at CH 112 (by decide)) (f56 CH hC mb_is) 30 (FT 56) sim_law_members))
theorem f58 : FunsOk c 58 FT GT := (f57 CH hC mb_is).next (step_def rfl rfl (check_at CH 113 (by decide)) (def_plain (check_at CH 114 (by decide)) (f57 CH hC mb_is) 30 (FT 57) sim_law_best))
theorem f59 : FunsOk c 59 FT GT := (f58 CH hC mb_is).next (step_def rfl rfl (check_at CH 115 (by decide)) (def_plain (check_at CH 116 (by decide)) (f58 CH hC mb_is) 30 (FT 58) sim_law_signed))
theorem f60 : FunsOk c 60 FT GT := (f59 CH hC mb_is).next (step_def rfl rfl (check_at CH 117 (by decide)) (def_plain (check_at CH 118 (by decide)) (f59 CH hC mb_is) 30 (FT 59) sim_law_turned))
theorem f61 : FunsOk c 61 FT GT := (f60 CH hC mb_is).next (step_def rfl rfl (check_at CH 119 (by decide)) (def_plain (check_at CH 120 (by decide)) (f60 CH hC mb_is) 30 (FT 60) sim_law_two_right))
theorem f62 : FunsOk c 62 FT GT := (f61 CH hC mb_is).next (step_def rfl rfl (check_at CH 121 (by decide)) (def_plain (check_at CH 122 (by decide)) (f61 CH hC mb_is) 30 (FT 61) sim_law_one_right))
theorem f63 : FunsOk c 63 FT GT := (f62 CH hC mb_is).next (step_def rfl rfl (check_at CH 123 (by decide)) (def_plain (check_at CH 124 (by decide)) (f62 CH hC mb_is) 30 (FT 62) sim_law_ends_right))
theorem f64 : FunsOk c 64 FT GT := (f63 CH hC mb_is).next (step_def rfl rfl (check_at CH 125 (by decide)) (def_plain (check_at CH 126 (by decide)) (f63 CH hC mb_is) 30 (FT 63) sim_law_span_right))
end
end Mine
/- indices: law 128, pen 102 -/

set_option autoImplicit false
namespace Mine
open PySem PySem.W PySem.Calls PyProof.Rows PyProof
set_option maxRecDepth 10000

mutual
theorem Is.switch {c c' : Cx} {φ : Fz} (hC : c'.C = c.C) (hp : c.p = none) : ∀ (x : V) {v : Value}, Is c φ x v → Is c' φ x v
  | .none, _, e => by simpa only [Is] using e
  | .bool _, _, e => by simpa only [Is] using e
  | .int _, _, e => by simpa only [Is] using e
  | .list xs, _, e => by
    simp only [Is] at e ⊢
    obtain ⟨a, o, n, vs, e1, e2, e3, e4, e5, e6⟩ := e
    exact ⟨a, o, n, vs, e1, e2, e3, e4, e5, IsL.switch hC hp xs e6⟩
  | .tup xs, _, e => by
    simp only [Is] at e ⊢
    obtain ⟨a, o, n, vs, e1, e2, e3, e4, e5, e6⟩ := e
    exact ⟨a, o, n, vs, e1, e2, e3, e4, e5, IsL.switch hC hp xs e6⟩
  | .rng _ _, _, e => by simpa only [Is] using e
  | .tnum _ _, _, e => by
    simp only [Is] at e ⊢
    rw [hC]; exact e
  | .pen, _, e => by
    simp only [Is] at e
    obtain ⟨a, h, _⟩ := e
    rw [hp] at h; cases h
theorem IsL.switch {c c' : Cx} {φ : Fz} (hC : c'.C = c.C) (hp : c.p = none) : ∀ (xs : List V) {vs : List Value}, IsL c φ xs vs → IsL c' φ xs vs
  | [], [], _ => trivial
  | x :: xs, v :: vs, e => ⟨Is.switch hC hp x e.1, IsL.switch hC hp xs e.2⟩
  | [], _ :: _, e => by simp only [IsL] at e
  | _ :: _, [], e => by simp only [IsL] at e
end

theorem pen_items (ns : List Int) (n : Nat) : evL (ev FT GT (n + 4) [(24, .list (ns.map .int))]) [(.comp (.call 0 [(.var 23)]) false [23] (.upto (.var 24) 40) Option.none [] [0]), (.int 0), (.int 0)] = .ret [.list ((ns.take 40).map .int), .int 0, .int 0] := by
  refine evL_3 ?_ rfl rfl
  refine ev_compI (F := FT) (G := GT) (n := n + 3) (xs := ns.take 40) V.int rfl ?_ fun x _ => ev_call (evL_1 (ev_varOf (by rw [get_set, if_pos rfl]))) rfl
  rw [ev, ev_varOf rfl]
  show Tree.ret (V.list ((ns.map V.int).take 40)) = _
  rw [List.map_take]

section
variable {c : Cx} {A : Around} {E : Value → Shared → Prop} {φ : Fz} {s : Shared}
theorem chk_ret {f : Stmt → S → Bool} {es : List Stmt} {e : X} (h : chkB f es [.ret e] = true) : ∃ st, es = [st] ∧ f st (.ret e) = true := by
  refine chkB_cons (M := fun es => ∃ st, es = [st] ∧ f st (.ret e) = true) rfl (fun st r h1 h2 => ?_) h
  exact inNil (M := fun r => ∃ st', st :: r = [st'] ∧ f st' (.ret e) = true) (fun _ => ⟨st, rfl, h1⟩) h2
theorem chkS_ret {k m : Nat} {Gs Ds Os : List Nat} {st : Stmt} {e : X} (h : chkS k Gs Ds Os m st (.ret e) = true) : ∃ v p m', st = .Return (some v) p ∧ chkE k m' Gs v e = true := by
  cases m with
  | zero => exact (chkS_zero h).elim
  | succ m =>
    exact inSReturn (M := fun st => ∃ v p m', st = .Return (some v) p ∧ chkE k m' Gs v e = true) (fun o p h => inSome (M := fun o => ∃ v q m', Stmt.Return o p = .Return (some v) q ∧ chkE k m' Gs v e = true) (fun v h => ⟨v, p, m, rfl, h⟩) h) h
theorem chkE_list {k m : Nat} {Gs : List Nat} {e : PySem.Expr} {xs : List X} (h : chkE k m Gs e (.list xs) = true) : ∃ es p m', e = .List es p ∧ chkL (chkE k m' Gs) es xs = true := by
  cases m with
  | zero => exact (chkE_zero h).elim
  | succ m =>
    exact inList (M := fun e => ∃ es p m', e = .List es p ∧ chkL (chkE k m' Gs) es xs = true) (fun es p h => ⟨es, p, m, rfl, and2k h fun h _ => h⟩) h
theorem three_is {φ : Fz} {a b d : V} {vs : List Value} (h : IsL c φ [a, b, d] vs) : ∃ x y z, vs = [x, y, z] ∧ Is c φ a x ∧ Is c φ b y ∧ Is c φ d z := by
  match vs, h with
  | [], h => simp only [IsL] at h
  | [x], h => exact absurd h.2 (by simp only [IsL]; exact id)
  | [x, y], h => exact absurd h.2.2 (by simp only [IsL]; exact id)
  | [x, y, z], h => exact ⟨x, y, z, rfl, h.1, h.2.1, h.2.2.1⟩
  | _ :: _ :: _ :: _ :: _, h => exact absurd h.2.2.2 (by simp only [IsL]; exact id)
theorem pen_call {a : Addr} (hok : defOk c.K 51 a [24] g_law_pen l_law_pen b_law_pen = true) (FO : FunsOk c 51 FT GT) (R : Room A 52) (S : St c φ s .none) {ns : List Int} {v : Value} (i : Is c φ (.list (ns.map .int)) v) {Q : Value → Shared → Prop}
    (P : ∀ φ' s' b q t1 t2, Ext c φ s φ' s' → St c φ' s' .none → s.heap.get? b = none → φ' b = none → s'.heap.get? b = some { cls := .type "list", data := .seq #[.ref q, .int 0 t1, .int 0 t2] } → Is c φ' (.list ((ns.take 40).map .int)) (.ref q) → Q (.ref b) s') :
    wpAny (model c.prog c.w) A (call (.ref a) [v] []) Q E s := by
  unfold defOk at hok
  split at hok
  · rename_i fd hfd
    simp only [Bool.and_eq_true] at hok
    obtain ⟨⟨h1, h2⟩, h3⟩ := hok
    obtain ⟨p1, p2⟩ := chkF_ps h1
    have hd : fd.defaults = .none := by
      unfold noDflt at h3
      split at h3
      · assumption
      · cases h3
    refine def_enter (us := [.list (ns.map .int)]) (du := []) (vs := [v]) (dv := []) hfd h1 R S ⟨i, trivial⟩ (binds_plain (args_plain h2) (names_nodup p1 p2) hd rfl s) trivial fun E' env body s₁ hbd hchk R' T => ?_
    obtain ⟨st, rfl, hst⟩ := chk_ret hchk
    obtain ⟨e, p, m', rfl, he⟩ := chkS_ret hst
    obtain ⟨es, p', m'', rfl, hes⟩ := chkE_list he
    refine wpAny_execs_cons (wpAny_Return_some (List_ ?_))
    refine evL_ok (sound FO 4).1 _ es hes φ s₁ .none _ (fun q us => q = .none ∧ us = [.list ((ns.take 40).map .int), .int 0, .int 0]) _ R' T.st T.fm.toRd (by
      show (evL (ev FT GT 4 [(24, .list (ns.map .int))]) _).All .none _
      rw [pen_items ns 0]; exact ⟨rfl, rfl⟩) fun vs us φ₂ s₂ pn₂ h₂ x₂ S₂ i₂ => ?_
    obtain ⟨rfl, rfl⟩ := h₂
    obtain ⟨x, y, z, rfl, i1, i2, i3⟩ := three_is i₂
    obtain ⟨t1, rfl⟩ := int_is i2
    obtain ⟨t2, rfl⟩ := int_is i3
    have hq : ∃ q, x = .ref q := by
      simp only [Is] at i1
      obtain ⟨q, _, _, _, e, _⟩ := i1
      exact ⟨q, e⟩
    obtain ⟨q, rfl⟩ := hq
    refine wpAny_newObj_type ?_ (by show (3 : Nat) ≤ sizeLine; rw [sizeLine_is]; decide)
    have T₂ := T.step x₂ S₂
    have nD := heap_fresh s₂.heap
    obtain ⟨x₃, S₃⟩ := S₂.keeps (h' := s₂.heap.push { cls := .type "list", data := .seq #[.ref q, .int 0 t1, .int 0 t2] }) (tk := s₂.toks) push_keeps
    have T₃ := T₂.step x₃ S₃
    have ex : Ext c φ s φ₂ _ := ⟨T₃.ext.same, T₃.ext.keep, T₃.ext.live, T₃.ext.fz⟩
    have n0 : s.heap.get? s₂.heap.objs.size = none := by
      cases q0 : s.heap.get? s₂.heap.objs.size with
      | none => rfl
      | some o => exact absurd nD (T₂.ext.live _ (by show s.heap.get? _ ≠ none; rw [q0]; simp))
    exact P φ₂ _ _ q t1 t2 ex S₃ n0 (S₂.dead nD) (Heap.get?_push_size _ rfl) i1
  · cases hok
end
end Mine

set_option autoImplicit false
namespace Mine
open PySem
set_option maxRecDepth 10000
set_option linter.unusedSimpArgs false

section
variable {F : Nat → List V → Tree V} {G : Nat → Int} {n : Nat} {σ : Env} {pn : Pn}
theorem tv_callD {f : Nat} {args : List X} {KB : Pn → Bool → Prop} (h : (ev F G n σ (.call f args)).All pn fun q v => ∃ b, v = .bool b ∧ KB q b) : (tv F G (n + 1) σ (.call f args)).All pn KB := by
  have e : tv F G (n + 1) σ (.call f args) = (ev F G n σ (.call f args)).bind truthyV := by simp only [tv]
  rw [e]
  refine Tree.all_bind_of _ _ (Tree.all_mono _ _ h fun q v hv => ?_)
  obtain ⟨b, rfl, hb⟩ := hv
  exact hb
theorem tv_notD {x : X} {KB : Pn → Bool → Prop} (h : (tv F G n σ x).All pn fun q b => KB q (!b)) : (tv F G (n + 1) σ (.notE x)).All pn KB := by
  rw [tv]
  exact Tree.all_bind_of _ _ (Tree.all_mono _ _ h fun q b hb => hb)
/-- either of two, when both are told to be false -/
theorem tv_orD {a b : X} {KB : Pn → Bool → Prop} (h : (tv F G n σ a).All pn fun q x => x = false ∧ (tv F G n σ b).All q fun q' y => y = false ∧ KB q' false) : (tv F G (n + 1) σ (.orE [a, b])).All pn KB := by
  rw [tv, chainT]
  refine Tree.all_bind_of _ _ (Tree.all_mono _ _ h fun q x hx => ?_)
  obtain ⟨rfl, hx⟩ := hx
  rw [chainT]
  refine Tree.all_bind_of _ _ (Tree.all_mono _ _ hx fun q' y hy => ?_)
  obtain ⟨rfl, hy⟩ := hy
  rw [chainT]; exact hy
theorem st_ifN {f : Fs} {c : X} {t r : List S} {K : Pn → Fs × Option V → Prop} (h : (tv F G (n + 1) f.σ c).All pn fun q b => b = false ∧ (exB F G (n + 2) f r).All q K) : (exB F G (n + 3) f (.ifS c t [] :: r)).All pn K :=
  all_seq (by
    rw [ex]
    refine Tree.all_bind_of _ _ (Tree.all_mono _ _ h fun q b hb => ?_)
    obtain ⟨rfl, hb⟩ := hb
    exact ⟨rfl, hb⟩)
end
theorem pair_call {n k : Nat} {σ : Env} {e : X} {K : Pn → V → Prop} (h : get σ 29 = some .pen) (he : (ev FT GT (n + 1) σ e).All (.upto k) fun q v => ∃ k' near, q = .upto k' ∧ v = .int near ∧ near < B64 ∧ k' + 20 ≤ 1000 ∧ ∀ v m, W3 v m → K (.upto (k' + 20)) (.tup [.int v, .int m])) : (ev FT GT (n + 2) σ (.call 55 [(.var 29), e])).All (.upto k) K := by
  rw [ev, evL, ev_varOf h, evL, evL]
  refine Tree.all_bind_of _ _ ?_
  refine Tree.all_bind_of (t := (ev FT GT (n + 1) σ e).bind fun v => (Tree.ret []).bind fun vs => Tree.ret (v :: vs)) (f := fun vs => Tree.ret (V.pen :: vs)) (p := Pn.upto k) ?_
  refine Tree.all_bind_of _ _ (Tree.all_mono _ _ he fun q v hv => ?_)
  obtain ⟨k', near, rfl, rfl, hn, hk, H⟩ := hv
  show (dPair [.pen, .int near]).All (.upto k') K
  rw [dPair]
  unfold need
  rw [if_pos hn]
  refine ⟨hk, fun v hv => ?_⟩
  obtain ⟨v, m, rfl, hw⟩ := hv
  exact H v m hw
theorem members_call {n i : Nat} {σ : Env} {v m : Int} (h : get σ i = some (.tup [.int v, .int m])) (w : W3 v m) : ev FT GT (n + 2) σ (.call 56 [(.var i)]) = .ret (.list ((mems v m).map .int)) := by
  refine ev_call (evL_1 (ev_varOf h)) ?_
  show dMembers [.tup [.int v, .int m]] = _
  rw [dMembers]
  unfold need
  rw [if_pos w]
theorem idx_two {n i : Nat} {σ : Env} {v m : Int} (h : get σ i = some (.tup [.int v, .int m])) : ev FT GT (n + 2) σ (.idx (.var i) (.int 0)) = .ret (.int v) ∧ ev FT GT (n + 2) σ (.idx (.var i) (.int 1)) = .ret (.int m) := by
  constructor
  · rw [ev, ev_varOf h]
    show nthV [.int v, .int m] 0 = _
    rw [nth_zero]
  · rw [ev, ev_varOf h]
    show nthV [.int v, .int m] 1 = _
    rw [nth_one]
theorem tnum_call {n i : Nat} {σ : Env} {v m : Int} (h : get σ i = some (.tup [.int v, .int m])) : ev FT GT (n + 3) σ (.call 12 [(.idx (.var i) (.int 0)), (.idx (.var i) (.int 1))]) = .ret (.tnum v m) :=
  ev_call (evL_2 (idx_two h).1 (idx_two h).2) rfl
theorem one_right_call {n k g : Nat} {σ : Env} {v m : Int} {K : Pn → V → Prop} (hg : FT g = dOneRight) (h29 : get σ 29 = some .pen) (h38 : get σ 38 = some (.tnum v m)) (h31 : get σ 31 = some (.list ((mems v m).map .int))) (w : W3 v m) (hk : k + 20 ≤ 1000) (H : K (.upto (k + 20)) (.bool true)) : (ev FT GT (n + 2) σ (.call g [(.var 29), (.var 38), (.var 31)])).All (.upto k) K := by
  have e : ev FT GT (n + 2) σ (.call g [(.var 29), (.var 38), (.var 31)]) = .any 20 (fun r => r = .bool true) .ret := by
    refine (show ev FT GT (n + 2) σ (.call g [(.var 29), (.var 38), (.var 31)]) = FT g [.pen, .tnum v m, .list ((mems v m).map .int)] by rw [ev, evL_3 (ev_varOf h29) (ev_varOf h38) (ev_varOf h31)]; rfl).trans ?_
    rw [hg, dOneRight]
    unfold need
    rw [if_pos ⟨w, rfl⟩]
  rw [e]
  exact ⟨hk, fun v hv => by subst hv; exact H⟩
theorem law_run {σ : Env} (f29 : get σ 29 = some .pen) : (exB FT GT 29 ⟨σ, Option.none⟩ b_law.tail).All (.upto 0) fun q o => o.2 = some (.bool true) := by
  refine st_assignD (pair_call f29 (a_of (v := .int (-1)) rfl ⟨0, -1, rfl, rfl, by decide, by decide, fun v m w1 => ?_⟩))
  have g29 : get (set σ 53 (.tup [.int v, .int m])) 29 = some .pen := get_ne rfl f29
  have g53 : get (set σ 53 (.tup [.int v, .int m])) 53 = some (.tup [.int v, .int m]) := get_eq
  generalize set σ 53 (.tup [.int v, .int m]) = σ₁ at g29 g53 ⊢
  refine st_assign (members_call g53 w1) ?_
  have h29 : get (set σ₁ 31 (.list ((mems v m).map .int))) 29 = some .pen := get_ne rfl g29
  have h53 : get (set σ₁ 31 (.list ((mems v m).map .int))) 53 = some (.tup [.int v, .int m]) := get_ne rfl g53
  have h31 : get (set σ₁ 31 (.list ((mems v m).map .int))) 31 = some (.list ((mems v m).map .int)) := get_eq
  dsimp only
  generalize set σ₁ 31 (.list ((mems v m).map .int)) = σ₂ at h29 h53 h31 ⊢
  have near : (ev FT GT 24 σ₂ (.ite (.cmp .Eq (.call 52 [(.var 29), (.int 2)]) (.int 0)) (.call 53 [(.var 29), (.var 31)]) (.neg (.int 1)))).All (.upto 20) fun q u => ∃ k' near, q = .upto k' ∧ u = .int near ∧ near < B64 ∧ k' ≤ 22 := by
    rw [ev]
    refine Tree.all_bind_of _ _ (a_cmp (ev_draw h29 rfl (by decide) fun d d0 d1 => a_of (v := .int 0) rfl (t_of (v := d == 0) rfl ?_)))
    cases (d == 0) with
    | false => exact ⟨21, -1, rfl, rfl, by decide, by decide⟩
    | true =>
      refine ev_pick h29 (ev_varOf h31) ?_ ?_ (by decide) fun u hu => ?_
      · simpa using mems_ne v m
      · have := mems_few w1; rw [List.length_map]; omega
      · obtain ⟨x, hx, rfl⟩ := List.mem_map.mp hu
        exact ⟨22, x, rfl, rfl, ((mem_mems w1.tn).mp hx).1.2, by decide⟩
  refine st_assignD (pair_call h29 (Tree.all_mono _ _ near fun q u hu => ?_))
  obtain ⟨k, nr, rfl, rfl, hnr, hk⟩ := hu
  refine ⟨k, nr, rfl, rfl, hnr, by omega, fun v2 m2 w2 => ?_⟩
  have i29 : get (set σ₂ 54 (.tup [.int v2, .int m2])) 29 = some .pen := get_ne rfl h29
  have i53 : get (set σ₂ 54 (.tup [.int v2, .int m2])) 53 = some (.tup [.int v, .int m]) := get_ne rfl h53
  have i31 : get (set σ₂ 54 (.tup [.int v2, .int m2])) 31 = some (.list ((mems v m).map .int)) := get_ne rfl h31
  have i54 : get (set σ₂ 54 (.tup [.int v2, .int m2])) 54 = some (.tup [.int v2, .int m2]) := get_eq
  generalize set σ₂ 54 (.tup [.int v2, .int m2]) = σ₃ at i29 i53 i31 i54 ⊢
  refine st_assignT (evL_2 (tnum_call i53) (tnum_call i54)) rfl ?_
  have j29 : get (set (set σ₃ 38 (.tnum v m)) 48 (.tnum v2 m2)) 29 = some .pen := get_ne rfl (get_ne rfl i29)
  have j53 : get (set (set σ₃ 38 (.tnum v m)) 48 (.tnum v2 m2)) 53 = some (.tup [.int v, .int m]) := get_ne rfl (get_ne rfl i53)
  have j31 : get (set (set σ₃ 38 (.tnum v m)) 48 (.tnum v2 m2)) 31 = some (.list ((mems v m).map .int)) := get_ne rfl (get_ne rfl i31)
  have j54 : get (set (set σ₃ 38 (.tnum v m)) 48 (.tnum v2 m2)) 54 = some (.tup [.int v2, .int m2]) := get_ne rfl (get_ne rfl i54)
  have j38 : get (set (set σ₃ 38 (.tnum v m)) 48 (.tnum v2 m2)) 38 = some (.tnum v m) := get_ne rfl get_eq
  have j48 : get (set (set σ₃ 38 (.tnum v m)) 48 (.tnum v2 m2)) 48 = some (.tnum v2 m2) := get_eq
  dsimp only
  generalize set (set σ₃ 38 (.tnum v m)) 48 (.tnum v2 m2) = σ₄ at j29 j53 j31 j54 j38 j48 ⊢
  have two : ∀ n, ev FT GT (n + 3) σ₄ (.call 60 [(.var 38), (.var 48), (.var 31), (.call 56 [(.var 54)])]) = .any 0 (fun r => r = .bool true) .ret := fun n => by
    rw [ev, evL, ev_varOf j38, evL_3 (ev_varOf j48) (ev_varOf j31) (members_call j54 w2)]
    show dTwoRight [.tnum v m, .tnum v2 m2, .list ((mems v m).map .int), .list ((mems v2 m2).map .int)] = _
    rw [dTwoRight]
    unfold need
    rw [if_pos ⟨w1, w2, rfl, rfl⟩]
  refine st_ifN (tv_orD (tv_notD (tv_callD ?_)))
  rw [two]
  refine ⟨by omega, fun u hu => ⟨true, hu, rfl, ?_⟩⟩
  refine tv_notD (tv_callD (one_right_call rfl j29 j38 j31 w1 (by omega) ⟨true, rfl, rfl, rfl, ?_⟩))
  refine st_ifN (tv_orD (tv_notD (tv_callD (one_right_call rfl j29 j38 j31 w1 (by omega) ⟨true, rfl, rfl, ?_⟩))))
  refine tv_notD (tv_callD ?_)
  have sp : ∀ n, ev FT GT (n + 2) σ₄ (.call 63 [(.var 29)]) = .any 40 (fun r => r = .bool true) .ret := fun n => by
    rw [ev, evL_1 (ev_varOf j29)]; rfl
  rw [sp]
  refine ⟨by omega, fun u hu => ⟨true, hu, rfl, rfl, ?_⟩⟩
  refine st_assignD (ev_worth j29 (by omega) fun w hw => ?_)
  have k53 : get (set σ₄ 55 (.int w)) 53 = some (.tup [.int v, .int m]) := get_ne rfl j53
  have k54 : get (set σ₄ 55 (.int w)) 54 = some (.tup [.int v2, .int m2]) := get_ne rfl j54
  have k38 : get (set σ₄ 55 (.int w)) 38 = some (.tnum v m) := get_ne rfl j38
  have k48 : get (set σ₄ 55 (.int w)) 48 = some (.tnum v2 m2) := get_ne rfl j48
  have k55 : get (set σ₄ 55 (.int w)) 55 = some (.int w) := get_eq
  generalize set σ₄ 55 (.int w) = σ₅ at k53 k54 k38 k48 k55 ⊢
  have same : ∀ (n i j : Nat) (a b : Int), get σ₅ i = some (.tnum a b) → get σ₅ j = some (.tup [.int a, .int b]) → ev FT GT (n + 3) σ₅ (.cmp .Eq (.meth 28 (.var i) []) (.var j)) = .ret (.bool true) := fun n i j a b hi hj =>
    ev_cmp (ev_meth (ev_varOf hi) rfl rfl) (ev_varOf hj) (by
      show cmpV .Eq (.tup [.int a, .int b]) (.tup [.int a, .int b]) = _
      rw [cv_eq, eq_pair_self]; rfl)
  have first : ∀ n, ev FT GT (n + 4) σ₅ (.cmp .Eq (.meth 28 (.static 17 [(.var 55)]) []) (.tup [(.var 55), (.int 0)])) = .ret (.bool true) := fun n =>
    ev_cmp (ev_meth (ev_static (evL_1 (ev_varOf k55)) (u := .tnum (w % B64) 0) rfl) rfl rfl) (ev_tup2 (ev_varOf k55) (v := .int 0) rfl) (by
      show cmpV .Eq (.tup [.int (w % B64), .int 0]) (.tup [.int w, .int 0]) = _
      rw [wd_same hw, cv_eq, eq_pair_self]; rfl)
  refine st_ret (v := .bool true) ?_ rfl
  rw [ev, chainV, first, chainV, same _ _ _ _ _ k38 k53, chainV, same _ _ _ _ _ k48 k54]; rfl
  · intro e; cases e
  · intro e; cases e
end Mine

set_option autoImplicit false
namespace Mine
open PySem PySem.W PySem.Calls PyProof.Rows PyProof
set_option maxRecDepth 10000

section
variable {c : Cx} {A : Around} {E : Value → Shared → Prop} {φ φ0 : Fz} {s : Shared} {s0 : Base} {Gs Ds Os : List Nat} {env : PySem.Env} {k m : Nat}
/-- the same constants, and a pen -/
noncomputable def Cx.withPen (c : Cx) (b : Addr) : Cx := { c with p := some b }
theorem At.switch {f : Fs} (T : At c φ0 s0 Gs Ds Os env f φ s .none) (hp : c.p = none) {b : Addr} (h0 : s0.heap.get? b = none) (hφ : φ b = none) (hl : b ≠ env.locals) (hcl : ∀ y, env.cells.lookup y ≠ some b) (ho : f.own = Option.none) {pn : Pn} (PK : PenOk (c.withPen b) φ s.heap pn) (hb : s.heap.get? b ≠ none) :
    At (c.withPen b) φ0 s0 Gs Ds Os env f φ s pn where
  st := ⟨T.st.sub, T.st.bas, PK, fun a e => by cases e; exact ⟨hb, hφ⟩⟩
  fm := {
    kind := T.fm.kind
    glb := T.fm.glb
    blt := T.fm.blt
    gs := T.fm.gs
    cl := T.fm.cl
    loc := fun e => hl (Option.some.inj e).symm
    apart := T.fm.apart
    dom := T.fm.dom
    vars := fun i u hi => by
      obtain ⟨v, h1, h2⟩ := T.fm.vars i u hi
      refine ⟨v, Is.switch (c := c) (c' := c.withPen b) rfl hp u h1, ?_⟩
      rcases h2 with h2 | ⟨e, a, e1, e2, e3⟩
      · exact .inl h2
      · exact .inr ⟨e, a, e1, fun q => hcl _ (Option.some.inj q ▸ e1), e3⟩
    ns := T.fm.ns
    sto := fun i hi => ⟨(T.fm.sto i hi).1, (T.fm.sto i hi).2.imp id fun ⟨e, a, v, e1, e2, e3⟩ => ⟨e, a, v, e1, e2, fun q => hcl _ (Option.some.inj q ▸ e1)⟩⟩ }
  ext := ⟨T.ext.same, fun a o _ e => T.ext.keep a o (by rw [hp]; simp) e, T.ext.live, T.ext.fz⟩
  nu := fun a u => ⟨(T.nu a u).1, fun q => by
    have q := Option.some.inj q
    rcases u with u | ⟨_, _, _, u⟩
    · exact hl (q ▸ u)
    · exact hcl _ (q ▸ u), (T.nu a u).2.2⟩
  ce := T.ce
  os := T.os
  own := fun x vs e => by rw [ho] at e; cases e
theorem chkS_assign {st : Stmt} {x : Nat} {e : X} (h : chkS k Gs Ds Os m st (.assign x e) = true) : ∃ p v pos m', st = .Assign [.Name (nm x) p] v pos ∧ storable Ds Os x = true ∧ chkE k m' Gs v e = true := by
  cases m with
  | zero => exact (chkS_zero h).elim
  | succ m =>
    exact inSAssign (M := fun st => ∃ p v pos m', st = .Assign [.Name (nm x) p] v pos ∧ storable Ds Os x = true ∧ chkE k m' Gs v e = true) (fun ts v pos h => in1 (M := fun ts => ∃ p w pos' m', Stmt.Assign ts v pos = .Assign [.Name (nm x) p] w pos' ∧ storable Ds Os x = true ∧ chkE k m' Gs w e = true) (fun t h =>
      inName (M := fun t => ∃ p w pos' m', Stmt.Assign [t] v pos = .Assign [.Name (nm x) p] w pos' ∧ storable Ds Os x = true ∧ chkE k m' Gs w e = true) (fun s p h => and3k h fun h1 h2 h3 => ⟨p, v, pos, m, by rw [eq_of_strEq h1], h2, h3⟩) h) h) h
theorem chkE_call {v : PySem.Expr} {f : Nat} {args : List X} (h : chkE k m Gs v (.call f args) = true) : ∃ p es pos m', v = .Call (.Name (fnm f) p) es [] pos ∧ f ∈ Gs ∧ f < k ∧ nameId f = true ∧ chkL (chkE k m' Gs) es args = true := by
  cases m with
  | zero => exact (chkE_zero h).elim
  | succ m =>
    exact inCall (M := fun v => ∃ p es pos m', v = .Call (.Name (fnm f) p) es [] pos ∧ f ∈ Gs ∧ f < k ∧ nameId f = true ∧ chkL (chkE k m' Gs) es args = true) (fun g es kw pos h => inName (M := fun g => ∃ p es' pos' m', Expr.Call g es kw pos = .Call (.Name (fnm f) p) es' [] pos' ∧ f ∈ Gs ∧ f < k ∧ nameId f = true ∧ chkL (chkE k m' Gs) es' args = true) (fun s p h =>
      inNil (M := fun kw => ∃ p' es' pos' m', Expr.Call (.Name s p) es kw pos = .Call (.Name (fnm f) p') es' [] pos' ∧ f ∈ Gs ∧ f < k ∧ nameId f = true ∧ chkL (chkE k m' Gs) es' args = true) (fun h => and6k h fun h1 h2 h3 h4 h5 _ => ⟨p, es, pos, m, by rw [eq_of_strEq h1], mem_of_contains h2, Nat.blt_eq.mp h3, h4, h5⟩) h) h) h
/-- the first statement of the law -/
theorem law_first {a : Addr} (hp : c.p = none) (hk : 51 < k) (hokp : defOk c.K 51 a [24] g_law_pen l_law_pen b_law_pen = true) (FO : FunsOk c k FT GT) (FP : FunsOk c 51 FT GT) (hG : c.Glob 51 (.ref a)) (hK : KeptBy c (.ref a)) {st : Stmt} {σ : Env} {ns : List Int} (hl : ns.length ≤ 63)
    (hc : chkS k Gs Ds Os m st (.assign 29 (.call 51 [.var 24])) = true) (R : Room A k) (T : At c φ0 s0 Gs Ds Os env ⟨σ, Option.none⟩ φ s .none) (h24 : get σ 24 = some (.list (ns.map .int))) {Q : Flow → Shared → Prop}
    (P : ∀ b φ' s', s0.heap.get? b = none → At (c.withPen b) φ0 s0 Gs Ds Os env ⟨set σ 29 .pen, Option.none⟩ φ' s' (.upto 0) → Q .next s') : wpAny (model c.prog c.w) A (exec st env) Q E s := by
  obtain ⟨p, v, pos, m', rfl, hst, hv⟩ := chkS_assign hc
  obtain ⟨hD, hO⟩ := storable_is hst
  obtain ⟨p', es, pos', m'', rfl, hf, hlt, hn, hes⟩ := chkE_call hv
  refine wpAny_Assign_Name (wpAny_Call_Name_kw (glob_ok T.st T.fm.toRd hf (nameId_lt hn) hG ?_)) rfl
  have hu := unstarred (env := env) [.var 24] es hes pos'
  refine callWith_of (P := fun h => ∀ b o, c.base.get? b = some o → h.get? b = some o) (by rw [hu.1]; rfl) hK ?_
  refine evalArgs_ok (sound FO 1).1 (K := fun q us => q = .none ∧ us = [.list (ns.map .int)]) hes R T.st T.fm.toRd (by rw [evL_1 (ev_varOf h24)]; exact ⟨rfl, rfl⟩) fun vs us φ₁ s₁ pn₁ h₁ x₁ S₁ i₁ => ⟨S₁.base, ?_⟩
  obtain ⟨rfl, rfl⟩ := h₁
  have T₁ := T.step x₁ S₁
  match vs, i₁ with
  | [], i₁ => simp only [IsL] at i₁
  | _ :: _ :: _, i₁ => exact absurd i₁.2 (by simp only [IsL]; exact id)
  | [w], i₁ =>
    show wpAny _ _ (call (.ref a) [w] []) _ _ _
    refine pen_call hokp FP (R.le (by omega)) S₁ i₁.1 fun φ' s' b q t1 t2 x S' nb nφ hb hq => ?_
    have T₂ := T₁.step x S'
    have hbl : s'.heap.get? b ≠ none := by rw [hb]; simp
    have T₃ : At (c.withPen b) φ0 s0 Gs Ds Os env ⟨σ, Option.none⟩ φ' s' (.upto 0) := by
      refine T₂.switch hp (T₁.dead0 nb) nφ (fun e => ?_) (fun y e => T₁.ce y b e nb) rfl ?_ hbl
      · obtain ⟨m1, hm1⟩ := T₁.fm.ns
        exact ns_live hm1 (e ▸ nb)
      · exact ⟨ns.take 40, 0, 0, ⟨b, q, _, 0, t1, t2, rfl, nφ, hb, rfl, rfl, Is.switch (c := c) (c' := c.withPen b) rfl hp _ hq⟩, by rw [List.length_take]; omega, Int.le_refl _, by simp, Int.le_refl _⟩
    refine T₃.store hD hO (u := .pen) (by simp only [Is]; exact ⟨b, rfl, rfl⟩) fun s'' T₄ => P b φ' s'' (T₁.dead0 nb) T₄
end

section
variable {c : Cx} (CH : checkAll c.K = true) (hC : c.C = 171) (mb_is : ∀ x : Str, x ≠ "__name__" → c.mb x = bootBuiltins x)
include CH hC mb_is
theorem law_call {A : Around} {E : Value → Shared → Prop} {φ : Fz} {s : Shared} (hp : c.p = none) (R : Room A 65) (S : St c φ s .none) {ns : List Int} (hl : ns.length ≤ 63) {v : Value} (i : Is c φ (.list (ns.map .int)) v) {Q : Value → Shared → Prop}
    (P : ∀ s', (∃ h' tk, s' = { s with heap := h', toks := tk }) → (∀ a o, s.heap.get? a = some o → s'.heap.get? a = some o) → Q (.bool true) s') : wpAny (model c.prog c.w) A (call (.ref 416) [v] []) Q E s := by
  have hok : defOk c.K 64 416 [24] g_law l_law b_law = true := check_at CH 128 (by decide)
  have hokp : defOk c.K 51 335 [24] g_law_pen l_law_pen b_law_pen = true := check_at CH 102 (by decide)
  have hnp : nameOk c.K 51 335 = true := check_at CH 101 (by decide)
  unfold defOk at hok
  split at hok
  · rename_i fd hfd
    simp only [Bool.and_eq_true] at hok
    obtain ⟨⟨h1, h2⟩, h3⟩ := hok
    obtain ⟨p1, p2⟩ := chkF_ps h1
    have hd : fd.defaults = .none := by
      unfold noDflt at h3
      split at h3
      · assumption
      · cases h3
    refine def_enter (us := [.list (ns.map .int)]) (du := []) (vs := [v]) (dv := []) hfd h1 R S ⟨i, trivial⟩ (binds_plain (args_plain h2) (names_nodup p1 p2) hd rfl s) trivial fun E' env body s₁ hbd hchk R' T => ?_
    have hchk' : chkB (chkS 64 (g_law ++ (cellIds fd.scope l_law).map (1000 + ·)) l_law (ownsOfL b_law) 40) body (.assign 29 (.call 51 [.var 24]) :: b_law.tail) = true := hchk
    refine chkB_cons (M := fun body => wpAny _ _ (execs body env) _ _ _) rfl (fun st rest hc1 hc2 => ?_) hchk'
    · skip
      refine wpAny_execs_cons (law_first hp (by decide) hokp (f64 CH hC mb_is) (f51 CH hC mb_is) (name_of hnp).1 (name_of hnp).2 hl hc1 R' T rfl fun b φ' s' nb T' => ?_)
      refine (soundB (c := c.withPen b) (f64 (c := c.withPen b) CH hC mb_is) 29).2 40 _ _ _ rest b_law.tail hc2 (A.deeper env) env φ _ _ φ' _ (.upto 0) (fun q o => o.2 = some (.bool true)) _ E' ⟨R'.handled, R'.depth, R'.units⟩ T' (law_run (by rw [get_set, if_pos rfl])) fun f' φ'' s'' pn'' T'' => ⟨fun e => (by cases e), fun u w e iu => ?_⟩
      have e := Option.some.inj e
      subst e
      rw [bool_is iu]
      refine P s'' T''.ext.same fun a o e => T''.ext.keep a o (fun q => ?_) e
      have q := Option.some.inj q
      subst q
      rw [show s.heap.get? a = none from nb] at e
      cases e
  · cases hok
end
end Mine

set_option autoImplicit false
set_option Elab.async false
namespace Mine
open PySem PySem.W PySem.Calls PyProof.Rows PyProof
set_option maxRecDepth 100000

noncomputable def viewQ : Program := view Challenge.pw_nu0354_01 [46]
noncomputable def looseNames : List Str := (["_wall", "U64", "U32", "ones", "wrap", "signed", "bit_count", "Tnum", "without", "tnum_add", "tnum_sub", "tnum_neg", "tnum_and", "tnum_or", "tnum_xor", "tnum_lsh", "tnum_rsh", "tnum_arsh", "zeros_below", "tnum_mul", "tnum_meet", "tnum_join", "tnum_within", "tnum_cast", "tnum_low32", "tnum_with_low32", "tnum_signed", "tnum_turned", "_law_all", "_law_half", "_law_pen", "_law_draw", "_law_pick", "_law_worth", "_law_pair", "_law_members", "_law_best", "_law_signed", "_law_turned", "_law_two_right", "_law_one_right", "_law_ends_right", "_law_span_right"] : List String).map Str.ofString
noncomputable def xt (s : Shared) : Bool := xlAt viewQ [] s && recOk [] s
/-- the places that the checks look at -/
noncomputable def wanted : List Nat := [2, 3, 27, 28, 29, 35, 36, 37, 43, 44, 50, 51, 64, 65, 71, 72, 74, 81, 82, 84, 91, 92, 94, 101, 102, 108, 109, 115, 116, 122, 123, 124, 130, 131, 132, 138, 139, 145, 146, 152, 153, 159, 160, 170, 171, 181, 182, 188, 189, 195, 196, 202, 203, 209, 210, 216, 217, 223, 224, 230, 231, 237, 238, 239, 245, 246, 253, 259, 260, 266, 267, 273, 274, 280, 281, 287, 288, 294, 295, 301, 302, 308, 309, 315, 316, 322, 323, 329, 330, 334, 335, 341, 342, 348, 349, 355, 356, 362, 363, 367, 368, 374, 375, 381, 382, 386, 387, 391, 392, 396, 397, 401, 402, 408, 409, 415, 416]
noncomputable def partOf (h : Heap) : Frag := wanted.filterMap fun a => (h.get? a).map (a, ·)
noncomputable def checked (s : Shared) : Bool := checkAll (partOf s.heap)
noncomputable def Part (_ : World) (h : Heap) : Prop := ∃ K : Frag, K.In h ∧ checkAll K = true

theorem lookup_part {h : Heap} {a : Addr} {o : Obj} : ∀ {l : List Nat}, (l.filterMap fun a => (h.get? a).map (a, ·)).lookup a = some o → h.get? a = some o
  | [], e => by cases e
  | b :: l, e => by
    rw [List.filterMap_cons] at e
    cases q : h.get? b with
    | none => rw [q] at e; exact lookup_part e
    | some ob =>
      rw [q] at e
      simp only [Option.map_some] at e
      rw [List.lookup_cons] at e
      split at e
      · rename_i hb
        have := eq_of_beq hb
        subst this
        cases e
        exact q
      · exact lookup_part e
theorem part_in (h : Heap) : (partOf h).In h := fun a o e => lookup_part e
theorem part_of (w : World) (s : Shared) (e : checked s = true) : Part w s.heap := ⟨partOf s.heap, part_in _, e⟩
theorem part_keeps (w : World) (h h' : Heap) (x : Part w h) (k : ∀ b o, h.get? b = some o → h'.get? b = some o) : Part w h' := by
  obtain ⟨K, X, e⟩ := x
  exact ⟨K, X.keeps k, e⟩

theorem list_of {c : Cx} {φ : Fz} {a : Addr} {o : Obj} {vs : Array Value} {n : Nat} {ns : List Int} (h : φ a = some o) (h1 : o.cls = .type "list") (h2 : o.data = .seq vs n) (hz : vs.size ≤ sizeLine) (hi : IntsAre vs.toList ns) : Is c φ (.list (ns.map .int)) (.ref a) := by
  simp only [Is]
  exact ⟨a, o, n, vs, rfl, h, h1, h2, hz, isL_of_ints hi⟩

theorem promised : Challenge.rw_nu0354_01.row.toRowW.promised := ⟨[WData.list []], by decide +kernel, by decide +kernel⟩

theorem answer {w : World} {s₀ s₁ s' : Shared} {ns : List Int} (hg : s'.gens = #[]) (hk : ∀ a o, s₁.heap.get? a = some o → s'.heap.get? a = some o) (hos : s'.os = s₁.os) :
    GoodWG Challenge.rw_nu0354_01.row.claim (classAt s₀.heap) (ExcName.means s₀.heap) [ofPy (PyData.list (ns.map PyData.int))] s₁ (.ok (.ret (.bool true))) s' := by
  refine GoodW.toG ⟨.inl ⟨_, _, _, rfl, raisesW_false ?_, .bool true, ?_, unshared_nil⟩, hk, hos, hg⟩
  · wrow_none_raised
  · wrow_post
theorem ready {w : World} {s₀ s₁ : Shared} {mg mb : Str → Option Value} {K : Frag} {fa a : Addr} {vs : List Value} {ns : List Int} (T : Top viewQ (looseW viewQ looseNames) (ExcName.means s₀.heap) mg mb s₁.heap) (X : K.In s₁.heap) (CH : checkAll K = true)
    (hmg : mg (Str.ofString "law") = some (.ref fa)) (hg : s₁.gens = #[]) (hL : s₁.heap.IsList a vs.toArray) (hI : IntsAre vs ns) (hn : ¬ ((63 : Nat) : Int) < (ns.length : Int)) :
    wpAny (model Challenge.rw_nu0354_01.row.prog w) callerA (call (.ref fa) [.ref a]) (fun v s' => GoodWG Challenge.rw_nu0354_01.row.claim (classAt s₀.heap) (ExcName.means s₀.heap) [ofPy (PyData.list (ns.map PyData.int))] s₁ (.ok (.ret v)) s')
      (fun e s' => GoodWG Challenge.rw_nu0354_01.row.claim (classAt s₀.heap) (ExcName.means s₀.heap) [ofPy (PyData.list (ns.map PyData.int))] s₁ (.error e) s') s₁ := by
  have h1 : nameOk K 64 416 = true := check_at CH 127 (by decide)
  unfold nameOk globOk at h1
  rw [Bool.and_eq_true, beq_iff_eq] at h1
  have h2 := mg_of X T.g h1.1
  have h3 : fnm 64 = Str.ofString "law" := rfl
  rw [h3, hmg] at h2
  cases h2
  have hl : ns.length ≤ 63 := by omega
  obtain ⟨o, ho, hc, n, hd⟩ := hL
  have hlen := ints_len hI
  let c : Cx := { prog := Challenge.rw_nu0354_01.row.prog, w := w, K := K, C := 171, base := s₁.heap, p := none, mg := mg, mb := mb, X := X, G := T.g, B := T.b, nolimit := T.nolimit }
  have S : St c s₁.heap.get? s₁ .none := ⟨fun _ _ e => e, fun _ _ e => e, rfl, fun _ e => by cases e⟩
  exact law_call (c := c) CH rfl T.builtins rfl ⟨rfl, by decide, by decide⟩ S hl (list_of ho hc hd (by rw [List.size_toArray, sizeLine_is]; omega) (by simpa using hI)) fun s' ⟨h', tk, e⟩ hk => answer (w := w) (by rw [e]; exact hg) hk (by rw [e])
theorem joined (N : Nat) (left : LeftO Challenge.pw_nu0354_01 viewQ looseNames xt checked (fun _ => true) N) (ok : Challenge.rw_nu0354_01.row.wellSaid = true) : Challenge.rw_nu0354_01.row.Holds := by
  refine holds_open (q := viewQ) (loose := looseNames) (Xt := xt) (XP := XL viewQ []) (Yf := checked) (Ya := fun _ => true) (YP := Part) (N := N) left part_of part_keeps (fun s e => xl_of s (Bool.and_eq_true_iff.mp e).1) XL.keeps (by rfl) (by rfl) (by rfl) (fun s e => recFacts_of (Bool.and_eq_true_iff.mp e).2) (by rfl) ok (by decide +kernel) ⟨rfl, rfl, rfl, rfl, rfl, by decide +kernel⟩ promised ?_
  intro w s₀ s₁ mg mb G Y fa o pm cd doc dV kV ho hd hcd hD hmg hg args vals as hpre hlay hrd hwl hlo
  obtain ⟨K, X, CH⟩ := Y
  clear ho hd hcd hD
  have T := G.T
  wrow_args hpre hlay hrd hwl hlo
  exact ready T X CH hmg hg (by assumption) (by assumption) (by assumption)
end Mine

set_option autoImplicit false
set_option Elab.async false
namespace Mine
open PySem PySem.W PySem.Calls PyProof.Rows PyProof
set_option maxRecDepth 1000000

/-- a run of the top on a tree, by the library's quick words -/
noncomputable def topT (p : Program) (w : World) (n₀ : Nat) (ann : Option Value) : Nat → SharedT → Thread → Option SharedT
  | 0, _, _ => none
  | n + 1, s, t => match through t with
    | true => some s
    | false => match PySem.W.Fast.tw6613529449190102663 n₀ ann t with
      | false => none
      | true => match PySem.W.Fast.tw10156331382660048174 (PySem.W.Fast.tw11892475500146522536 PySem.W.Fast.tw14364793385576792824) p w s t with
        | some (s', t') => topT p w n₀ ann n s' t'
        | none => none
theorem topT_spec {p : Program} {w : World} {n₀ : Nat} {ann : Option Value} : ∀ {n : Nat} {s r : SharedT} {t : Thread}, topT p w n₀ ann n s t = some r → topRun treeTable p w n₀ ann n s.abs t = some r.abs
  | 0, _, _, _, h => by cases h
  | n + 1, s, r, t, h => by
    unfold topT at h
    unfold topRun
    rw [← PySem.W.Fast.te6613529449190102663, ← PySem.W.Fast.te10156331382660048174, ← PySem.W.Fast.te11892475500146522536, ← PySem.W.Fast.te14364793385576792824] at h
    cases h1 : through t with
    | true => rw [h1] at h; cases h; rfl
    | false =>
      rw [h1] at h
      cases h2 : stepOk n₀ ann t with
      | false => rw [h2] at h; cases h
      | true =>
        rw [h2] at h
        cases h3 : stepT (denote treeTable) p w s t with
        | none => rw [h3] at h; cases h
        | some x =>
          obtain ⟨s', t'⟩ := x
          rw [h3] at h
          rw [stepT_spec h3]
          exact topT_spec h
noncomputable def treeOf : List Obj → Nat → BT → BT
  | [], _, t => t
  | o :: r, n, t => treeOf r (n + 1) (t.ins n o)
noncomputable def bootT (P : Params) (os : OsState) : SharedT := ⟨treeOf (boot_heap P).objs.toList 0 .nil, 11, (boot_heap P).life, #[], boot_drawn, boot_toks, os⟩
theorem bootT_abs (P : Params) (os : OsState) : (bootT P os).abs = ⟨boot_heap P, #[], boot_drawn, boot_toks, os⟩ := by kernel_rfl
theorem boot_size (P : Params) : ((boot_heap P).isNs mainGlobals, (boot_heap P).objs.size) = (true, 11) := by kernel_rfl
theorem boot_ann (P : Params) : (boot_heap P).nsMap mainGlobals "__annotations__" = some (.ref 6) := by kernel_rfl
theorem fenced (w : World) : (fencedOpening treeTable Challenge.pw_nu0354_01 w 4794).map (fun s => (s.heap, s.gens, s.drawn, s.toks)) = some (boot_heap w.params, Array.mk [], boot_drawn, boot_toks) :=
  boot_open (p := Challenge.pw_nu0354_01) rfl (by decide) (fun s => rfl) w
noncomputable def looks (H : Heap) (s : Shared) :=
  ((staticsOk (PySem.W.Fast.tw5923862056798008813 Challenge.pw_nu0354_01.main.body) H s.heap && namesBound Challenge.pw_nu0354_01 s.heap && gensDone s && laidKept H s.heap),
    PySem.W.Fast.tw4187177175401517315 viewQ looseNames (PySem.W.Fast.tw5923862056798008813 Challenge.pw_nu0354_01.main.body) xt true s, checked s)
theorem top_ok (w : World) (os : OsState) : (topT Challenge.pw_nu0354_01 w 11 (some (.ref 6)) 4000 (bootT w.params os) (topStub Challenge.pw_nu0354_01)).map (fun r => looks (boot_heap w.params) r.abs) = some (true, openGood viewQ looseNames, true) := by
  kernel_rfl
theorem topFrom_of {tb : String → Option Builtin} {p : Program} {w : World} {N n : Nat} {ann : Option Value} {s₀ s₁ : Shared} (e1 : s₀.heap.isNs mainGlobals = true) (e2 : (s₀.gens.size == 0) = true) (e3 : s₀.heap.objs.size = n) (e4 : s₀.heap.nsMap mainGlobals "__annotations__" = ann)
    (h : topRun tb p w n ann N s₀ (topStub p) = some s₁) (l : (staticsOk (importedModules p.main.body) s₀.heap s₁.heap && namesBound p s₁.heap && gensDone s₁ && laidKept s₀.heap s₁.heap) = true) : topFrom tb p w N s₀ = some s₁ := by
  subst e3 e4
  unfold topFrom
  rw [e1, e2, h]
  show (match (staticsOk (importedModules p.main.body) s₀.heap s₁.heap && namesBound p s₁.heap && gensDone s₁ && laidKept s₀.heap s₁.heap) with | true => some s₁ | false => none) = some s₁
  rw [l]
theorem left_of {tb : String → Option Builtin} {p : Program} {w : World} {N : Nat} {s₀ s₁ : Shared} (h0 : fencedOpening tb p w N = some s₀) (h : topFrom tb p w N s₀ = some s₁) : openEnds tb p w N = some s₁ := by
  unfold openEnds
  rw [h0]; exact h
theorem left : LeftO Challenge.pw_nu0354_01 viewQ looseNames xt checked (fun _ => true) 4794 := fun w => by
  obtain ⟨s, h1, h2⟩ := Option.map_eq_some_iff.mp (fenced w)
  obtain ⟨h, gs, d, k, os⟩ := s
  simp only [Prod.mk.injEq] at h2
  obtain ⟨rfl, rfl, rfl, rfl⟩ := h2
  obtain ⟨r, h3, h4⟩ := Option.map_eq_some_iff.mp (top_ok w os)
  have h5 := topT_spec h3
  rw [bootT_abs] at h5
  have h6 := topRun_mono 794 _ _ _ _ h5
  unfold looks at h4
  simp only [Prod.mk.injEq] at h4
  obtain ⟨l1, l2, l3⟩ := h4
  rw [← PySem.W.Fast.te5923862056798008813] at l1 l2
  rw [← PySem.W.Fast.te4187177175401517315] at l2
  have b := boot_size w.params
  rw [left_of h1 (topFrom_of (congrArg Prod.fst b) rfl (congrArg Prod.snd b) (boot_ann w.params) h6 l1)]
  rw [Option.map_some, l2, l3]
theorem said : Challenge.rw_nu0354_01.wellSaid = true := by
  show OpenLaw.wellSaid Challenge.rw_nu0354_01 = true
  rw [PySem.W.Fast.te9446332074065402090]
  unfold PySem.W.Fast.tw9446332074065402090
  iterate 18 (refine look_both ?_ ?_)
  · unfold PySem.W.Fast.tw17960256430627541270
    repeat (refine look_both ?_ ?_)
    all_goals decide +kernel
  all_goals decide +kernel
theorem holds : Challenge.rw_nu0354_01.Holds := holds_law said fun ok => joined 4794 left ok
end Mine

set_option maxRecDepth 1000000 in
theorem PySem.Challenge.cw_nu0354_01_holds : PySem.Challenge.rw_nu0354_01.Holds :=
  Mine.holds
