import PyProof.Rows.All
import PyProof.TableCode
import Wide.FinOn
import OpenK.AllK
import Wide.All
import Lean
import PySem.Challenge.RW_nt0453_01
set_option Elab.async false
set_option autoImplicit false
set_option linter.all false
set_option tactic.hygienic false
set_option genInjectivity false
set_option genSizeOf false
set_option maxRecDepth 1000000
set_option maxHeartbeats 4000000
noncomputable section
namespace Mine
theorem nn {α : Type} {x : α} {P : Prop} (h : none = some x) : P := nomatch h
theorem nn' {α : Type} {x : α} {P : Prop} (h : some x = none) : P := nomatch h
theorem ff {P : Prop} (h : false = true) : P := nomatch h
theorem tt {P : Prop} (h : true = false) : P := nomatch h
theorem sub_lt' {a b n : Nat} (h : a < n) : a - b < n := Nat.lt_of_le_of_lt (Nat.sub_le ..) h
theorem succ_lt' {x n : Nat} (h : x < n) (q : x ≠ n - 1) : x + 1 < n := Nat.lt_of_le_of_ne h fun e => q (by rw [← e]; rfl)
theorem le_pred_succ (n : Nat) : n ≤ n - 1 + 1 := Nat.sub_le_iff_le_add.mp (Nat.le_refl _)
theorem ne_last {x n : Nat} (h : x + 1 < n) : x ≠ n - 1 := fun e => Nat.not_lt_of_le (le_pred_succ n) (e ▸ h)
theorem cast_sub {m n : Nat} (h : m ≤ n) : (n : Int) - (m : Int) = ((n - m : Nat) : Int) := (Int.ofNat_sub h).symm
theorem eq_sub' {a b c : Nat} (h : a + b = c) : c - b = a := by rw [← h,Nat.add_sub_cancel]
theorem lt_add_sub {a x r : Nat} (h : a ≤ r) : r < a + (x - a) ↔ r < x := by
  rcases Nat.le_total a x with q | q
  · rw [Nat.add_sub_cancel' q]
  · rw [Nat.sub_eq_zero_of_le q]
    exact ⟨fun z => absurd z (Nat.not_lt_of_le h),fun z => absurd (Nat.lt_of_lt_of_le z q) (Nat.not_lt_of_le h)⟩
theorem six : ∀ k,k < 7 → 1 ≤ k → k = 1 ∨ k = 2 ∨ k = 3 ∨ k = 4 ∨ k = 5 ∨ k = 6 := by decide
theorem two_ways {s : Nat} (h : s < 2) : s = 0 ∨ s = 1 := (Nat.le_one_iff_eq_zero_or_eq_one).mp (Nat.le_of_lt_succ h)
theorem pos_rs {rs : Nat} (h : 3 ≤ rs) : ∃ r,rs = r + 1 := ⟨rs - 1,(Nat.sub_add_cancel (Nat.le_trans (by decide) h)).symm⟩
theorem mul_pred {a b : Nat} (h : 1 ≤ b) : a + (b - 1) = a + b - 1 := (Nat.add_sub_assoc h a).symm
theorem code_iff {c s k : Nat} (h : k < 8) : c = 8 * s + k ↔ c / 8 = s ∧ c % 8 = k := by
  constructor
  · rintro rfl; exact ⟨by rw [Nat.mul_add_div (by decide),Nat.div_eq_of_lt h,Nat.add_zero],by rw [Nat.mul_add_mod,Nat.mod_eq_of_lt h]⟩
  · rintro ⟨rfl,rfl⟩; exact (Nat.div_add_mod c 8).symm
theorem mirror {x n : Nat} (h1 : 0 < x) (h2 : x + 1 < n) : 1 ≤ n - 1 - x ∧ n - 1 - x + 1 < n := by
  obtain ⟨k,rfl⟩ := Nat.exists_eq_add_of_lt h2
  show 1 ≤ x + 1 + k - x ∧ x + 1 + k - x + 1 < x + 1 + k + 1
  rw [Nat.add_assoc,Nat.add_sub_cancel_left]
  exact ⟨Nat.le_add_right ..,Nat.succ_lt_succ (Nat.lt_add_of_pos_left h1)⟩
theorem sub_step {n x : Nat} (h : x + 1 < n) : n - 1 - x = n - 1 - (x + 1) + 1 := (Nat.sub_add_cancel (Nat.sub_pos_of_lt (Nat.lt_sub_of_add_lt h))).symm
theorem three (t f : Nat) : t + f * 3 = t + f + f + f := by rw [Nat.mul_succ,Nat.mul_two,← Nat.add_assoc,← Nat.add_assoc]
theorem big {a b : Nat} (h : a < b) (k : b ≤ 30) : a ≤ 1000000 := Nat.le_trans (Nat.le_of_lt h) (Nat.le_trans k (by decide))
theorem big_lt {a b : Nat} (h : a < b) (k : b ≤ 1000000 := by decide) : a ≤ 1000000 := Nat.le_trans (Nat.le_of_lt h) k
theorem six' (k : Nat) (h : k < 7) (h1 : 1 ≤ k) : k = 1 ∨ k = 2 ∨ k = 6 ∨ k = 3 ∨ k = 4 ∨ k = 5 := (show ∀ k,k < 7 → 1 ≤ k → k = 1 ∨ k = 2 ∨ k = 6 ∨ k = 3 ∨ k = 4 ∨ k = 5 by decide) k h h1
theorem one_lt {s : Nat} : 1 - s < 2 := Nat.lt_of_le_of_lt (Nat.sub_le ..) (by decide)
theorem cast_sub2 {n r : Nat} (h : r < n) : (n : Int) - 1 - (r : Int) = ((n - 1 - r : Nat) : Int) :=
  (congrArg (· - (r : Int)) (cast_sub (Nat.lt_of_le_of_lt (Nat.zero_le r) h))).trans (cast_sub (Nat.le_pred_of_lt h))
theorem mirror_iff {a r n : Nat} (ha : a < n) (hr : r < n) : a = n - 1 - r ↔ n - 1 - a = r :=
  ⟨fun e => by rw [e,Nat.sub_sub_self (n := n - 1) (Nat.le_pred_of_lt hr)],fun e => by rw [← e,Nat.sub_sub_self (n := n - 1) (Nat.le_pred_of_lt ha)]⟩
theorem eq_cast {k n : Nat} : (k : Int) = (n : Int) ↔ k = n := Int.ofNat_inj
theorem abs_lt : ∀ {a : Int} {n : Nat},-(n : Int) < a → a < n → a.natAbs < n
  | .ofNat _,_,_,h => Int.ofNat_lt.mp h
  | .negSucc m,n,h,_ => Int.ofNat_lt.mp (Int.neg_lt_neg_iff.mp h : ((m + 1 : Nat) : Int) < n)
theorem cast_pred {x : Int} {n : Nat} (h : x = n) (h0 : 0 < n) : x - 1 = ((n - 1 : Nat) : Int) := by subst h; exact cast_sub h0
theorem sub_two_le {a b n : Nat} (h : a < b) (k : b ≤ n) : a ≤ n := Nat.le_trans (Nat.le_of_lt h) k
theorem lt_k {a k n : Nat} (h : a + k = n) (hn : n < 1000) : a < 1000 := Nat.lt_of_le_of_lt (h ▸ Nat.le_add_right ..) hn
theorem le_k {a k n : Nat} (h : a + k ≤ n) (hn : n < 1000) : a < 1000 := Nat.lt_of_le_of_lt (Nat.le_trans (Nat.le_add_right ..) h) hn
theorem far_up {n : Nat} {x : Int} (h : n ≤ 7) (h0 : 0 ≤ x) : (n : Int) ≤ x + 1 * 7 := Int.le_trans (Int.ofNat_le.mpr h) (Int.le_add_of_nonneg_left h0)
theorem far_dn {n : Nat} {x : Int} (h : n ≤ 7) (hx : x < n) : x + (-1) * 7 < 0 := Int.sub_neg_of_lt (Int.lt_of_lt_of_le hx (Int.ofNat_le.mpr h))
theorem sub_succ' {n k : Nat} (h : k < n) : n - k = n - (k + 1) + 1 := (Nat.sub_add_cancel (Nat.sub_pos_of_lt h)).symm
theorem lt_app {α : Type} (h : List α) (o : α) : h.length < (h ++ [o]).length := List.length_append ▸ Nat.lt_succ_self _
theorem lt_app' {α : Type} {h : List α} {a : Nat} {o : α} (q : a < h.length) : a < (h ++ [o]).length := Nat.lt_trans q (lt_app h o)
theorem app1 {α : Type} (h : List α) (o : α) : (h ++ [o]).length = h.length + 1 := List.length_append
theorem grow1 {α : Type} {l : List α} {o : α} {k n : Nat} (h : l.length + (k + 1) ≤ n) : (l ++ [o]).length + k ≤ n := by rw [app1,Nat.add_right_comm]; exact h
theorem drop1 {a k n : Nat} (h : a + (k + 1) ≤ n) : a + k ≤ n := Nat.le_of_succ_le h
theorem growM {α : Type} {l r : List α} {m k n : Nat} (h : l.length + m * (k + 1) ≤ n) (hr : r.length ≤ m) : (l ++ r).length + m * k ≤ n := by
  rw [List.length_append,Nat.add_right_comm]; exact Nat.le_trans (Nat.add_le_add_left hr _) (by rw [Nat.add_assoc]; exact h)
theorem dropM {a m k n : Nat} (h : a + m * (k + 1) ≤ n) : a + m * k ≤ n := Nat.le_trans (Nat.add_le_add_left (Nat.le_add_right ..) a) h
theorem lt_cast {k n : Nat} : (k : Int) < (n : Int) ↔ k < n := Int.ofNat_lt
theorem le_cast {k n : Nat} : (k : Int) ≤ (n : Int) ↔ k ≤ n := Int.ofNat_le
theorem small_sub' {x y : Nat} (hx : x < 1000) (hy : y < 1000) : -1000000 < (x : Int) - (y : Int) ∧ (x : Int) - (y : Int) < 1000000 :=
  ⟨Int.lt_of_lt_of_le (Int.neg_lt_neg (Int.ofNat_lt.mpr (Nat.lt_trans hy (by decide : 1000 < 1000000)))) (Int.le_trans (Int.zero_sub _ ▸ Int.le_refl _) (Int.sub_le_sub_right (Int.natCast_nonneg x) _)),Int.lt_of_le_of_lt (Int.sub_le_self _ (Int.natCast_nonneg y)) (Int.ofNat_lt.mpr (Nat.lt_trans hx (by decide : 1000 < 1000000)))⟩
theorem ord_b {a B k : Nat} (h : a < B) : a < B + k := Nat.lt_of_lt_of_le h (Nat.le_add_right ..)
theorem ord_6 {a B k : Nat} (h : B + 7 ≤ a) (k7 : k < 7) : B + k < a := Nat.lt_of_lt_of_le (Nat.add_lt_add_left k7 B) h
theorem ord_a {a B c : Nat} (h : a < B) (g : B + 7 ≤ c) : a < c := Nat.lt_of_lt_of_le h (Nat.le_trans (Nat.le_add_right ..) g)
theorem add56 {a b k : Nat} (h1 : a ≤ 56) (h2 : b ≤ 56 * k) : a + b ≤ 56 * (k + 1) := by rw [Nat.mul_succ,Nat.add_comm]; exact Nat.add_le_add h2 h1
end Mine
namespace Mine
open PySem
inductive V where
  | none
  | bool (b : Bool)
  | int (i : Int)
  | ref (a : Nat)
  | con (a : Nat)
  deriving DecidableEq
inductive O where
  | lst (xs : List V)
  | tup (xs : List V)
  | rng (a b c : Int)
  | inst (c : Nat) (d : Nat)
  | dct (fs : List (Nat × V))
  deriving DecidableEq
noncomputable abbrev H := List O
noncomputable abbrev Sig := List (Option V)
mutual
inductive ME where
  | bad
  | const (v : V)
  | var (i : Nat)
  | tab (k : Nat)
  | bin (op : Operator) (a b : ME)
  | neg (a : ME)
  | inv (a : ME)
  | not (a : ME)
  | and (a b : ME)
  | or (a b : ME)
  | cmp (op : CmpOp) (a b : ME)
  | cmp2 (op1 op2 : CmpOp) (a b c : ME)
  | ite (t a b : ME)
  | call (f : Nat) (as : MEs)
  | new (c : Nat) (as : MEs)
  | bi (k : Nat) (as : MEs)
  | rng1 (a : ME)
  | rng2 (a b : ME)
  | rng3 (a b c : ME)
  | meth (k : Nat) (o x : ME)
  | lst (as : MEs)
  | tup (as : MEs)
  | comp (elt : ME) (it : MI) (ifs : MEs)
  | attr (o : ME) (k : Nat)
  | sub (o i : ME)
  | sliceFrom (o lo : ME)
  | slice (o lo hi : ME)
inductive MEs where
  | nil
  | cons (e : ME) (es : MEs)
inductive MI where
  | rng1 (a : ME)
  | rng2 (a b : ME)
  | rng3 (a b c : ME)
  | disp (as : MEs)
  | val (e : ME)
end
mutual
inductive MS where
  | bad
  | assign (i : Nat) (e : ME)
  | unpack (is : List Nat) (e : ME)
  | setattr (o : ME) (k : Nat) (e : ME)
  | setsub (o i e : ME)
  | aug (i : Nat) (op : Operator) (e : ME)
  | augattr (o : ME) (k : Nat) (op : Operator) (e : ME)
  | augsub (o i : ME) (op : Operator) (e : ME)
  | ite (t : ME) (a b : MSs)
  | while (t : ME) (b : MSs)
  | for (i : Nat) (it : MI) (b : MSs)
  | forT (is : List Nat) (it : MI) (b : MSs)
  | ret (e : ME)
  | brk
  | cont
  | expr (e : ME)
inductive MSs where
  | nil
  | cons (s : MS) (ss : MSs)
end
noncomputable def objOf (C : Nat → Option O) (h : H) : V → Option O
  | .ref a => h[a]?
  | .con a => C a
  | _ => none
noncomputable def lenMax : Nat := 1048576
noncomputable def bo {α β : Type} (X : Option (α × H)) (f : α → H → Option β) : Option β := match X with
  | some (x,h) => f x h
  | none => none
noncomputable def bq {α β : Type} (X : Option α) (f : α → Option β) : Option β := match X with
  | some x => f x
  | none => none
noncomputable def bt {β : Type} (X : Option Bool) (A B : Option β) : Option β := match X with
  | some true => A
  | some false => B
  | none => none
noncomputable def bI {β : Type} (x : V) (f : Int → Option β) : Option β := match x with
  | .int i => f i
  | _ => none
noncomputable def bL {β : Type} (X : Option O) (f : List V → Option β) : Option β := match X with
  | some (.lst xs) => f xs
  | _ => none
noncomputable def bN {β : Type} (x : V) (A : Option β) : Option β := match x with
  | .none => A
  | _ => none
noncomputable def lookS (σ : Sig) (i : Nat) : Option V := match σ[i]? with
  | some (some v) => some v
  | _ => none
noncomputable def bS {β : Type} (X : Option O) (f : List V → Option β) : Option β := match X with
  | some (.lst xs) => f xs
  | some (.tup xs) => f xs
  | _ => none
noncomputable def bT {β : Type} (X : Option O) (f : List V → Option β) : Option β := match X with
  | some (.tup xs) => f xs
  | _ => none
noncomputable def bR {β : Type} (X : Option O) (f : Int → Int → Int → Option β) : Option β := match X with
  | some (.rng a b c) => f a b c
  | _ => none
noncomputable def bD {β : Type} (X : Option O) (f : List (Nat × V) → Option β) : Option β := match X with
  | some (.dct fs) => f fs
  | _ => none
noncomputable def bC {β : Type} (X : Option O) (f : Nat → Option β) : Option β := match X with
  | some (.inst _ d) => f d
  | _ => none
noncomputable def bA {β : Type} (x : V) (f : Nat → Option β) : Option β := match x with
  | .ref a => f a
  | _ => none
noncomputable def b1 {β : Type} (vs : List V) (f : V → Option β) : Option β := match vs with
  | [v] => f v
  | _ => none
noncomputable def b2 {β : Type} (vs : List V) (f : V → V → Option β) : Option β := match vs with
  | [v,w] => f v w
  | _ => none
section
variable {α β : Type} {r : β}
theorem bS_inv {X : Option O} {f : List V → Option β} (e : bS X f = some r) : ∃ xs,(X = some (.lst xs) ∨ X = some (.tup xs)) ∧ f xs = some r := by
  cases X with
  | none => exact nn e
  | some o => cases o with
    | lst xs => exact ⟨xs,.inl rfl,e⟩
    | tup xs => exact ⟨xs,.inr rfl,e⟩
    | _ => exact nn e
theorem bT_inv {X : Option O} {f : List V → Option β} (e : bT X f = some r) : ∃ xs,X = some (.tup xs) ∧ f xs = some r := by
  cases X with
  | none => exact nn e
  | some o => cases o with
    | tup xs => exact ⟨xs,rfl,e⟩
    | _ => exact nn e
theorem bR_inv {X : Option O} {f : Int → Int → Int → Option β} (e : bR X f = some r) : ∃ a b c,X = some (.rng a b c) ∧ f a b c = some r := by
  cases X with
  | none => exact nn e
  | some o => cases o with
    | rng a b c => exact ⟨a,b,c,rfl,e⟩
    | _ => exact nn e
theorem bD_inv {X : Option O} {f : List (Nat × V) → Option β} (e : bD X f = some r) : ∃ fs,X = some (.dct fs) ∧ f fs = some r := by
  cases X with
  | none => exact nn e
  | some o => cases o with
    | dct fs => exact ⟨fs,rfl,e⟩
    | _ => exact nn e
theorem bC_inv {X : Option O} {f : Nat → Option β} (e : bC X f = some r) : ∃ c d,X = some (.inst c d) ∧ f d = some r := by
  cases X with
  | none => exact nn e
  | some o => cases o with
    | inst c d => exact ⟨c,d,rfl,e⟩
    | _ => exact nn e
theorem bA_inv {x : V} {f : Nat → Option β} (e : bA x f = some r) : ∃ a,x = .ref a ∧ f a = some r := by
  cases x with
  | ref a => exact ⟨a,rfl,e⟩
  | _ => exact nn e
theorem b1_inv {vs : List V} {f : V → Option β} (e : b1 vs f = some r) : ∃ v,vs = [v] ∧ f v = some r := by
  cases vs with
  | nil => exact nn e
  | cons v t => cases t with
    | nil => exact ⟨v,rfl,e⟩
    | cons _ _ => exact nn e
theorem b2_inv {vs : List V} {f : V → V → Option β} (e : b2 vs f = some r) : ∃ v w,vs = [v,w] ∧ f v w = some r := by
  cases vs with
  | nil => exact nn e
  | cons v t => cases t with
    | nil => exact nn e
    | cons w t => cases t with
      | nil => exact ⟨v,w,rfl,e⟩
      | cons _ _ => exact nn e
theorem bS_l {X : Option O} {f : List V → Option β} {xs : List V} {y : Option β} (e : X = some (.lst xs)) (q : f xs = y) : bS X f = y := by subst e; exact q
theorem bS_t {X : Option O} {f : List V → Option β} {xs : List V} {y : Option β} (e : X = some (.tup xs)) (q : f xs = y) : bS X f = y := by subst e; exact q
theorem bT_mk {X : Option O} {f : List V → Option β} {xs : List V} {y : Option β} (e : X = some (.tup xs)) (q : f xs = y) : bT X f = y := by subst e; exact q
theorem bR_mk {X : Option O} {f : Int → Int → Int → Option β} {a b c : Int} {y : Option β} (e : X = some (.rng a b c)) (q : f a b c = y) : bR X f = y := by subst e; exact q
theorem bD_mk {X : Option O} {f : List (Nat × V) → Option β} {fs : List (Nat × V)} {y : Option β} (e : X = some (.dct fs)) (q : f fs = y) : bD X f = y := by subst e; exact q
theorem bC_mk {X : Option O} {f : Nat → Option β} {c d : Nat} {y : Option β} (e : X = some (.inst c d)) (q : f d = y) : bC X f = y := by subst e; exact q
theorem bo_inv {X : Option (α × H)} {f : α → H → Option β} (e : bo X f = some r) : ∃ x h,X = some (x,h) ∧ f x h = some r := by
  cases X with
  | none => exact nn e
  | some p => exact ⟨p.1,p.2,rfl,e⟩
theorem bq_inv {X : Option α} {f : α → Option β} (e : bq X f = some r) : ∃ x,X = some x ∧ f x = some r := by
  cases X with
  | none => exact nn e
  | some p => exact ⟨p,rfl,e⟩
theorem bt_inv {X : Option Bool} {A B : Option β} (e : bt X A B = some r) : (X = some true ∧ A = some r) ∨ (X = some false ∧ B = some r) := by
  cases X with
  | none => exact nn e
  | some b => cases b with
    | true => exact .inl ⟨rfl,e⟩
    | false => exact .inr ⟨rfl,e⟩
theorem bI_inv {x : V} {f : Int → Option β} (e : bI x f = some r) : ∃ i,x = .int i ∧ f i = some r := by
  cases x with
  | int i => exact ⟨i,rfl,e⟩
  | _ => exact nn e
theorem bL_inv {X : Option O} {f : List V → Option β} (e : bL X f = some r) : ∃ xs,X = some (.lst xs) ∧ f xs = some r := by
  cases X with
  | none => exact nn e
  | some o => cases o with
    | lst xs => exact ⟨xs,rfl,e⟩
    | _ => exact nn e
theorem bN_inv {x : V} {A : Option β} (e : bN x A = some r) : x = .none ∧ A = some r := by
  cases x with
  | none => exact ⟨rfl,e⟩
  | _ => exact nn e
theorem lookS_inv {σ : Sig} {i : Nat} {v : V} (e : lookS σ i = some v) : σ[i]? = some (some v) := by
  unfold lookS at e
  cases h : σ[i]? with
  | none => rw [h] at e; exact nn e
  | some o => cases o with
    | none => rw [h] at e; exact nn e
    | some w => rw [h] at e; exact congrArg some e
theorem boI_inv {X : Option (V × H)} {f : Int → H → Option β} (e : bo X (fun x h => bI x fun i => f i h) = some r) : ∃ i h,X = some (.int i,h) ∧ f i h = some r := by
  obtain ⟨x,h,e1,e⟩ := bo_inv e
  obtain ⟨i,rfl,e⟩ := bI_inv e
  exact ⟨i,h,e1,e⟩
theorem if_inv {c : Prop} [Decidable c] {A : Option β} (e : (if c then A else none) = some r) : c ∧ A = some r := by
  by_cases h : c
  · rw [if_pos h] at e; exact ⟨h,e⟩
  · rw [if_neg h] at e; exact nn e
theorem two_inv {a c : α} {b d : β} (e : some (a,b) = some (c,d)) : a = c ∧ b = d := by
  cases e; exact ⟨rfl,rfl⟩
theorem three_inv {γ : Type} {a c : α} {b d : β} {x y : γ} (e : some (a,b,x) = some (c,d,y)) : a = c ∧ b = d ∧ x = y := by
  cases e; exact ⟨rfl,rfl,rfl⟩
theorem bo_mk {X : Option (α × H)} {f : α → H → Option β} {x : α} {h : H} {y : Option β} (e : X = some (x,h)) (q : f x h = y) : bo X f = y := by subst e; exact q
theorem bq_mk {X : Option α} {f : α → Option β} {x : α} {y : Option β} (e : X = some x) (q : f x = y) : bq X f = y := by subst e; exact q
theorem bt_t {X : Option Bool} {A B y : Option β} (e : X = some true) (q : A = y) : bt X A B = y := by subst e; exact q
theorem bt_f {X : Option Bool} {A B y : Option β} (e : X = some false) (q : B = y) : bt X A B = y := by subst e; exact q
theorem bL_mk {X : Option O} {f : List V → Option β} {xs : List V} {y : Option β} (e : X = some (.lst xs)) (q : f xs = y) : bL X f = y := by subst e; exact q
theorem lookS_mk {σ : Sig} {i : Nat} {v : V} (e : σ[i]? = some (some v)) : lookS σ i = some v := by unfold lookS; rw [e]
end
noncomputable def truthy (C : Nat → Option O) (h : H) : V → Option Bool
  | .none => some false
  | .bool b => some b
  | .int i => some (i != 0)
  | v => bL (objOf C h v) fun xs => if xs.length ≤ lenMax then some (!xs.isEmpty) else none
noncomputable def small (i : Int) : Bool := decide (i.natAbs < 2 ^ 64)
noncomputable def binInt : Operator → Int → Int → Option Int
  | .Add,a,b => some (a + b)
  | .Sub,a,b => some (a - b)
  | .Mult,a,b => if small a || small b then some (a * b) else none
  | .FloorDiv,a,b => if b ≠ 0 && small b then some (a.fdiv b) else none
  | .Mod,a,b => if b ≠ 0 then some (a.fmod b) else none
  | .LShift,a,b => if 0 ≤ b && decide (b ≤ 1000) && small a then some (a * 2 ^ b.toNat) else none
  | .RShift,a,b => if 0 ≤ b then some (a.fdiv (2 ^ b.toNat)) else none
  | .BitAnd,a,b => some (Builtin.bitAnd a b)
  | .BitOr,a,b => some (Builtin.bitOr a b)
  | .BitXor,a,b => some (Builtin.bitXor a b)
  | _,_,_ => none
noncomputable def addL (C : Nat → Option O) (x y : V) (h : H) : Option (V × H) := bL (objOf C h x) fun xs => bL (objOf C h y) fun ys => if xs.length + ys.length ≤ lenMax then some (.ref h.length,h ++ [.lst (xs ++ ys)]) else none
noncomputable def mulL (C : Nat → Option O) (x y : V) (h : H) : Option (V × H) := bL (objOf C h x) fun xs => bI y fun n => if xs.length * n.toNat ≤ lenMax && xs.length == 1 && decide (0 ≤ n) then some (.ref h.length,h ++ [.lst (List.replicate n.toNat (xs.headD .none))]) else none
noncomputable def binO (C : Nat → Option O) (op : Operator) (x y : V) (h : H) : Option (V × H) := match op with
  | .Add => addL C x y h
  | .Mult => mulL C x y h
  | _ => none
noncomputable def binV (C : Nat → Option O) (op : Operator) (x y : V) (h : H) : Option (V × H) :=
  match x with
  | .int a => match y with
    | .int b => (binInt op a b).map fun r => (.int r,h)
    | _ => none
  | x => binO C op x y h
noncomputable def augL (C : Nat → Option O) (a : Nat) (y : V) (h : H) : Option (V × H) := bL h[a]? fun xs => bL (objOf C h y) fun ys => if xs.length + ys.length ≤ lenMax && y != .ref a then some (.ref a,h.set a (.lst (xs ++ ys))) else none
noncomputable def augV (C : Nat → Option O) (op : Operator) (x y : V) (h : H) : Option (V × H) :=
  match x with
  | .int a => match y with
    | .int b => (binInt op a b).map fun r => (.int r,h)
    | _ => none
  | .ref a => match op with
    | .Add => augL C a y h
    | _ => none
  | _ => none
noncomputable def isInts : List V → Option (List Int)
  | [] => some []
  | .int i :: r => (isInts r).map (i :: ·)
  | _ :: _ => none
noncomputable def cmpI : CmpOp → Int → Int → Option Bool
  | .Eq,a,b => some (a == b)
  | .NotEq,a,b => some (a != b)
  | .Lt,a,b => some (decide (a < b))
  | .LtE,a,b => some (decide (a ≤ b))
  | .Gt,a,b => some (decide (a > b))
  | .GtE,a,b => some (decide (a ≥ b))
  | _,_,_ => none
noncomputable def hasV (C : Nat → Option O) (h : H) (a : Int) (y : V) : Option Bool := bS (objOf C h y) fun xs => (isInts xs).map fun l => l.contains a
noncomputable def hasNot (C : Nat → Option O) (h : H) (a : Int) (y : V) : Option Bool := bS (objOf C h y) fun xs => (isInts xs).map fun l => !l.contains a
noncomputable def neT (C : Nat → Option O) (h : H) (x y : V) : Option Bool := bT (objOf C h x) fun xs => bT (objOf C h y) fun ys => bq (isInts xs) fun l => bq (isInts ys) fun r => some (l != r)
noncomputable def cmpV (C : Nat → Option O) (h : H) (op : CmpOp) (x y : V) : Option Bool := match op with
  | .In => bI x fun a => hasV C h a y
  | .NotIn => bI x fun a => hasNot C h a y
  | op => match x with
    | .int a => bI y fun b => cmpI op a b
    | x => match op with
      | .NotEq => neT C h x y
      | _ => none
noncomputable def rangeList (a b c : Int) : List Int :=
  (List.range (if c > 0 then (b - a + c - 1) / c else (a - b - c - 1) / (-c)).toNat).map fun (i : Nat) => a + i * c
noncomputable def rangeOk (a b c : Int) : Bool := decide (a.natAbs ≤ 100000) && decide (b.natAbs ≤ 100000) && (c == 1 || c == -1)
noncomputable def itemsOf : O → Option (List V)
  | .lst xs => some xs
  | .tup xs => some xs
  | .rng a b c => if rangeOk a b c then some ((rangeList a b c).map .int) else none
  | _ => none
noncomputable def lookF (k : Nat) : List (Nat × V) → Option V
  | [] => none
  | (j,v) :: r => if k = j then some v else lookF k r
noncomputable def putF (k : Nat) (v : V) : List (Nat × V) → List (Nat × V)
  | [] => [(k,v)]
  | (j,w) :: r => if k = j then (k,v) :: r else (j,w) :: putF k v r
noncomputable def getAttr (h : H) (v : V) (k : Nat) : Option V := bA v fun a => bC h[a]? fun d => bD h[d]? fun fs => lookF k fs
noncomputable def setAttr (h : H) (v : V) (k : Nat) (x : V) : Option H := bA v fun a => bC h[a]? fun d => bD h[d]? fun fs => if fs.length < 100 then some (h.set d (.dct (putF k x fs))) else none
noncomputable def getSub (C : Nat → Option O) (h : H) (v i : V) : Option V := bS (objOf C h v) fun xs => bI i fun k => if 0 ≤ k && decide (k ≤ 1000000) then xs[k.toNat]? else none
noncomputable def setSub (h : H) (v i x : V) : Option H := bA v fun a => bI i fun k => bL h[a]? fun xs => if 0 ≤ k && decide (k ≤ 1000000) && k.toNat < xs.length then some (h.set a (.lst (xs.set k.toNat x))) else none
noncomputable def stable (C : Nat → Option O) (v : V) (o : O) (h : H) : Bool := objOf C h v == some o
noncomputable def biV (C : Nat → Option O) (k : Nat) (vs : List V) (h : H) : Option (V × H) :=
  match k with
  | 0 => b1 vs fun v => bL (objOf C h v) fun xs => if xs.length ≤ lenMax then some (.int xs.length,h) else none
  | 1 => b2 vs fun x y => bI x fun a => bI y fun b => some (.int (if b > a then b else a),h)
  | 2 => b2 vs fun x y => bI x fun a => bI y fun b => some (.int (if b < a then b else a),h)
  | 3 => b1 vs fun v => bL (objOf C h v) fun xs => bq (isInts xs) fun l => some (.int l.sum,h)
  | 4 => b1 vs fun v => bR (objOf C h v) fun a b c => if rangeOk a b c && decide ((rangeList a b c).length ≤ lenMax) then some (.ref h.length,h ++ [.lst ((rangeList a b c).map .int)]) else none
  | _ => none
noncomputable def methV (C : Nat → Option O) (k : Nat) (o x : V) (h : H) : Option (V × H) :=
  match k with
  | 0 => bA o fun a => bL h[a]? fun xs => if xs.length < lenMax then some (.none,h.set a (.lst (xs ++ [x]))) else none
  | 1 => bL (objOf C h o) fun xs => bI x fun k => bq (isInts xs) fun l => if l.contains k && l.all (fun i => decide (i.natAbs ≤ 100000)) && decide (l.length ≤ 1000) then some (.int (l.idxOf k),h) else none
  | 2 => bL (objOf C h o) fun xs => bI x fun k => bq (isInts xs) fun l => some (.int (l.count k),h)
  | _ => none
noncomputable abbrev Call := Nat → List V → H → Option (V × H)
structure Par where
  C : Nat → Option O
  tabs : Nat → V
  inits : Nat → Nat
structure It where
  xs : List V
  ok : H → Bool
noncomputable def withV (r : Option V) (rs : List V) : List V := match r with
  | some v => v :: rs
  | none => rs
noncomputable def compL (f : V → H → Option (Option V × H)) (ok : H → Bool) : List V → H → Option (List V × H)
  | [],h => if ok h then some ([],h) else none
  | x :: xs,h => if ok h then bo (f x h) fun r h1 => bo (compL f ok xs h1) fun rs h2 => some (withV r rs,h2) else none
noncomputable def gO (X : Option (V × H)) (h : H) (b : Bool) : Option (Option V × H) := match b with
  | true => bo X fun v h3 => some (some v,h3)
  | false => some (none,h)
noncomputable def compG (t : V → H → Option (Bool × H)) (f : V → H → Option (V × H)) : V → H → Option (Option V × H) := fun x h => bo (t x h) fun b h2 => gO (f x h2) h2 b
mutual
noncomputable def ev (P : Par) (F : Call) : ME → Sig → H → Option (V × H)
  | .bad,_,_ => none
  | .const v,_,h => some (v,h)
  | .var i,σ,h => bq (lookS σ i) fun v => some (v,h)
  | .tab k,_,h => some (P.tabs k,h)
  | .bin op a b,σ,h => bo (ev P F a σ h) fun x h1 => bo (ev P F b σ h1) fun y h2 => binV P.C op x y h2
  | .neg a,σ,h => bo (ev P F a σ h) fun x h1 => bI x fun i => some (.int (-i),h1)
  | .inv a,σ,h => bo (ev P F a σ h) fun x h1 => bI x fun i => some (.int (Builtin.bitNot i),h1)
  | .not a,σ,h => bo (ev P F a σ h) fun x h1 => bq (truthy P.C h1 x) fun b => some (.bool (!b),h1)
  | .and a b,σ,h => bo (ev P F a σ h) fun x h1 => bt (truthy P.C h1 x) (ev P F b σ h1) (some (x,h1))
  | .or a b,σ,h => bo (ev P F a σ h) fun x h1 => bt (truthy P.C h1 x) (some (x,h1)) (ev P F b σ h1)
  | .cmp op a b,σ,h => bo (ev P F a σ h) fun x h1 => bo (ev P F b σ h1) fun y h2 => bq (cmpV P.C h2 op x y) fun r => some (.bool r,h2)
  | .cmp2 op1 op2 a b c,σ,h => bo (ev P F a σ h) fun x h1 => bo (ev P F b σ h1) fun y h2 => bt (cmpV P.C h2 op1 x y)
      (bo (ev P F c σ h2) fun z h3 => bq (cmpV P.C h3 op2 y z) fun r => some (.bool r,h3)) (some (.bool false,h2))
  | .ite t a b,σ,h => bo (ev P F t σ h) fun x h1 => bt (truthy P.C h1 x) (ev P F a σ h1) (ev P F b σ h1)
  | .call f as,σ,h => bo (evs P F as σ h) fun vs h1 => F f vs h1
  | .new c as,σ,h => bo (evs P F as σ h) fun vs h1 => bo (F (P.inits c) (.ref h1.length :: vs) (h1 ++ [.inst c (h1.length + 1),.dct []])) fun v h2 => bN v (some (.ref h1.length,h2))
  | .bi k as,σ,h => bo (evs P F as σ h) fun vs h1 => biV P.C k vs h1
  | .rng1 a,σ,h => bo (ev P F a σ h) fun x h1 => bI x fun x => if rangeOk 0 x 1 then some (.ref h1.length,h1 ++ [.rng 0 x 1]) else none
  | .rng2 a b,σ,h => bo (ev P F a σ h) fun x h1 => bI x fun x => bo (ev P F b σ h1) fun y h2 => bI y fun y => if rangeOk x y 1 then some (.ref h2.length,h2 ++ [.rng x y 1]) else none
  | .rng3 a b c,σ,h => bo (ev P F a σ h) fun x h1 => bI x fun x => bo (ev P F b σ h1) fun y h2 => bI y fun y => bo (ev P F c σ h2) fun z h3 => bI z fun z =>
      if rangeOk x y z then some (.ref h3.length,h3 ++ [.rng x y z]) else none
  | .meth k o x,σ,h => bo (ev P F o σ h) fun ov h1 => bL (objOf P.C h1 ov) fun _ => bo (ev P F x σ h1) fun xv h2 => methV P.C k ov xv h2
  | .lst as,σ,h => bo (evs P F as σ h) fun vs h1 => if vs.length ≤ lenMax then some (.ref h1.length,h1 ++ [.lst vs]) else none
  | .tup as,σ,h => bo (evs P F as σ h) fun vs h1 => if vs.length ≤ lenMax then some (.ref h1.length,h1 ++ [.tup vs]) else none
  | .comp elt it ifs,σ,h => bo (evI P F it σ h) fun i h1 => bo (compL (compG (fun x h => evT P F ifs (some x :: σ) h) (fun x h => ev P F elt (some x :: σ) h)) i.ok i.xs h1) fun vs h2 =>
      if vs.length ≤ lenMax then some (.ref h2.length,h2 ++ [.lst vs]) else none
  | .attr o k,σ,h => bo (ev P F o σ h) fun v h1 => bq (getAttr h1 v k) fun x => some (x,h1)
  | .sub o i,σ,h => bo (ev P F o σ h) fun v h1 => bo (ev P F i σ h1) fun x h2 => bq (getSub P.C h2 v x) fun r => some (r,h2)
  | .sliceFrom o lo,σ,h => bo (ev P F o σ h) fun v h1 => bo (ev P F lo σ h1) fun x h2 => bI x fun x => bL (objOf P.C h2 v) fun xs =>
      if 0 ≤ x && xs.length ≤ lenMax then some (.ref h2.length,h2 ++ [.lst (xs.drop x.toNat)]) else none
  | .slice o lo hi,σ,h => bo (ev P F o σ h) fun v h1 => bo (ev P F lo σ h1) fun x h2 => bI x fun x => bo (ev P F hi σ h2) fun y h3 => bI y fun y => bL (objOf P.C h3 v) fun xs =>
      if 0 ≤ x && 0 ≤ y && xs.length ≤ lenMax then some (.ref h3.length,h3 ++ [.lst ((xs.take y.toNat).drop x.toNat)]) else none
noncomputable def evs (P : Par) (F : Call) : MEs → Sig → H → Option (List V × H)
  | .nil,_,h => some ([],h)
  | .cons e es,σ,h => bo (ev P F e σ h) fun v h1 => bo (evs P F es σ h1) fun vs h2 => some (v :: vs,h2)
noncomputable def evT (P : Par) (F : Call) : MEs → Sig → H → Option (Bool × H)
  | .nil,_,h => some (true,h)
  | .cons e es,σ,h => bo (ev P F e σ h) fun v h1 => bt (truthy P.C h1 v) (evT P F es σ h1) (some (false,h1))
noncomputable def evI (P : Par) (F : Call) : MI → Sig → H → Option (It × H)
  | .rng1 a,σ,h => bo (ev P F a σ h) fun x h1 => bI x fun x => if rangeOk 0 x 1 then some (⟨(rangeList 0 x 1).map .int,fun _ => true⟩,h1) else none
  | .rng2 a b,σ,h => bo (ev P F a σ h) fun x h1 => bI x fun x => bo (ev P F b σ h1) fun y h2 => bI y fun y => if rangeOk x y 1 then some (⟨(rangeList x y 1).map .int,fun _ => true⟩,h2) else none
  | .rng3 a b c,σ,h => bo (ev P F a σ h) fun x h1 => bI x fun x => bo (ev P F b σ h1) fun y h2 => bI y fun y => bo (ev P F c σ h2) fun z h3 => bI z fun z =>
      if rangeOk x y z then some (⟨(rangeList x y z).map .int,fun _ => true⟩,h3) else none
  | .disp as,σ,h => bo (evs P F as σ h) fun vs h1 => if vs.length ≤ lenMax then some (⟨vs,fun _ => true⟩,h1) else none
  | .val e,σ,h => bo (ev P F e σ h) fun v h1 => bq (objOf P.C h1 v) fun o => bq (itemsOf o) fun xs => some (⟨xs,fun h => stable P.C v o h⟩,h1)
end
inductive Fl where
  | next | brk | cont
  | ret (v : V)
noncomputable def nxF (K : Sig → H → Option (Fl × Sig × H)) (σ : Sig) (h : H) (fl : Fl) : Option (Fl × Sig × H) := match fl with
  | .next => K σ h
  | .cont => K σ h
  | .brk => some (.next,σ,h)
  | .ret v => some (.ret v,σ,h)
noncomputable def nxt (X : Option (Fl × Sig × H)) (K : Sig → H → Option (Fl × Sig × H)) : Option (Fl × Sig × H) := match X with
  | some r => nxF K r.2.1 r.2.2 r.1
  | none => none
noncomputable def sxF (K : Sig → H → Option (Fl × Sig × H)) (σ : Sig) (h : H) (fl : Fl) : Option (Fl × Sig × H) := match fl with
  | .next => K σ h
  | .cont => some (.cont,σ,h)
  | .brk => some (.brk,σ,h)
  | .ret v => some (.ret v,σ,h)
noncomputable def sx (X : Option (Fl × Sig × H)) (K : Sig → H → Option (Fl × Sig × H)) : Option (Fl × Sig × H) := match X with
  | some r => sxF K r.2.1 r.2.2 r.1
  | none => none
noncomputable def wb (X : Option (Fl × Sig × H)) (σ : Sig) (h : H) (b : Bool) : Option (Fl × Sig × H) := match b with
  | true => X
  | false => some (.next,σ,h)
theorem nxt_mk {X : Option (Fl × Sig × H)} {K : Sig → H → Option (Fl × Sig × H)} {fl : Fl} {σ : Sig} {h : H} {y : Option (Fl × Sig × H)} (e : X = some (fl,σ,h)) (q : nxF K σ h fl = y) : nxt X K = y := by subst e; exact q
theorem sx_mk {X : Option (Fl × Sig × H)} {K : Sig → H → Option (Fl × Sig × H)} {fl : Fl} {σ : Sig} {h : H} {y : Option (Fl × Sig × H)} (e : X = some (fl,σ,h)) (q : sxF K σ h fl = y) : sx X K = y := by subst e; exact q
theorem nxt_inv {X : Option (Fl × Sig × H)} {K : Sig → H → Option (Fl × Sig × H)} {r : Fl × Sig × H} (e : nxt X K = some r) : ∃ fl σ h,X = some (fl,σ,h) ∧ nxF K σ h fl = some r := by
  cases X with
  | none => exact nn e
  | some p => exact ⟨_,_,_,rfl,e⟩
theorem sx_inv {X : Option (Fl × Sig × H)} {K : Sig → H → Option (Fl × Sig × H)} {r : Fl × Sig × H} (e : sx X K = some r) : ∃ fl σ h,X = some (fl,σ,h) ∧ sxF K σ h fl = some r := by
  cases X with
  | none => exact nn e
  | some p => exact ⟨_,_,_,rfl,e⟩
noncomputable def forL (f : V → Sig → H → Option (Fl × Sig × H)) (ok : H → Bool) : List V → Sig → H → Option (Fl × Sig × H)
  | [],σ,h => if ok h then some (.next,σ,h) else none
  | x :: xs,σ,h => if ok h then nxt (f x σ h) (forL f ok xs) else none
noncomputable def whileL (t : Sig → H → Option (Bool × H)) (f : Sig → H → Option (Fl × Sig × H)) : Nat → Sig → H → Option (Fl × Sig × H)
  | 0,_,_ => none
  | n + 1,σ,h => bo (t σ h) fun b h1 => wb (nxt (f σ h1) (whileL t f n)) σ h1 b
noncomputable def setSlots : List Nat → List V → Sig → Option Sig
  | [],vs,σ => match vs with
    | [] => some σ
    | _ => none
  | i :: is,vs,σ => match vs with
    | v :: vs => if i < σ.length then setSlots is vs (σ.set i (some v)) else none
    | [] => none
noncomputable def unpackV (C : Nat → Option O) (h : H) (v : V) (n : Nat) : Option (List V) := bT (objOf C h v) fun xs => if xs.length = n then some xs else none
noncomputable def whileMax : Nat := 100
mutual
noncomputable def ex (P : Par) (F : Call) : MS → Sig → H → Option (Fl × Sig × H)
  | .bad,_,_ => none
  | .assign i e,σ,h => bo (ev P F e σ h) fun v h1 => if i < σ.length then some (.next,σ.set i (some v),h1) else none
  | .unpack is e,σ,h => bo (ev P F e σ h) fun v h1 => bq (unpackV P.C h1 v is.length) fun xs => bq (setSlots is xs σ) fun σ1 => some (.next,σ1,h1)
  | .setattr o k e,σ,h => bo (ev P F e σ h) fun v h1 => bo (ev P F o σ h1) fun ov h2 => bq (setAttr h2 ov k v) fun h3 => some (.next,σ,h3)
  | .setsub o i e,σ,h => bo (ev P F e σ h) fun v h1 => bo (ev P F o σ h1) fun ov h2 => bo (ev P F i σ h2) fun iv h3 => bq (setSub h3 ov iv v) fun h4 => some (.next,σ,h4)
  | .aug i op e,σ,h => bq (lookS σ i) fun old => bo (ev P F e σ h) fun v h1 => bo (augV P.C op old v h1) fun r h2 => some (.next,σ.set i (some r),h2)
  | .augattr o k op e,σ,h => bo (ev P F o σ h) fun ov h1 => bq (getAttr h1 ov k) fun old => bo (ev P F e σ h1) fun v h2 => bo (augV P.C op old v h2) fun r h3 => bq (setAttr h3 ov k r) fun h4 => some (.next,σ,h4)
  | .augsub o i op e,σ,h => bo (ev P F o σ h) fun ov h1 => bo (ev P F i σ h1) fun iv h2 => bq (getSub P.C h2 ov iv) fun old => bo (ev P F e σ h2) fun v h3 => bo (augV P.C op old v h3) fun r h4 => bq (setSub h4 ov iv r) fun h5 => some (.next,σ,h5)
  | .ite t a b,σ,h => bo (ev P F t σ h) fun x h1 => bt (truthy P.C h1 x) (exs P F a σ h1) (exs P F b σ h1)
  | .while t b,σ,h => whileL (fun σ h => bo (ev P F t σ h) fun x h1 => bq (truthy P.C h1 x) fun b => some (b,h1)) (fun σ h => exs P F b σ h) whileMax σ h
  | .for i it b,σ,h => bo (evI P F it σ h) fun I h1 => forL (fun x σ h => if i < σ.length then exs P F b (σ.set i (some x)) h else none) I.ok I.xs σ h1
  | .forT is it b,σ,h => bo (evI P F it σ h) fun I h1 => forL (fun x σ h => bq (unpackV P.C h x is.length) fun xs => bq (setSlots is xs σ) fun σ1 => exs P F b σ1 h) I.ok I.xs σ h1
  | .ret e,σ,h => bo (ev P F e σ h) fun v h1 => some (.ret v,σ,h1)
  | .brk,σ,h => some (.brk,σ,h)
  | .cont,σ,h => some (.cont,σ,h)
  | .expr e,σ,h => bo (ev P F e σ h) fun v h1 => bN v (some (.next,σ,h1))
noncomputable def exs (P : Par) (F : Call) : MSs → Sig → H → Option (Fl × Sig × H)
  | .nil,σ,h => some (.next,σ,h)
  | .cons s ss,σ,h => sx (ex P F s σ h) fun σ1 h1 => exs P F ss σ1 h1
end
structure FnM where
  np : Nat
  ns : Nat
  body : MSs
noncomputable def rV (h : H) (fl : Fl) : Option (V × H) := match fl with
  | .ret v => some (v,h)
  | .next => some (.none,h)
  | _ => none
noncomputable def rF (X : Option (Fl × Sig × H)) : Option (V × H) := match X with
  | some r => rV r.2.2 r.1
  | none => none
theorem rF_mk {X : Option (Fl × Sig × H)} {fl : Fl} {σ : Sig} {h : H} {y : Option (V × H)} (e : X = some (fl,σ,h)) (q : rV h fl = y) : rF X = y := by subst e; exact q
noncomputable def runFn (P : Par) (F : Call) (m : FnM) (args : List V) (h : H) : Option (V × H) :=
  if args.length = m.np then rF (exs P F m.body (args.map some ++ List.replicate (m.ns - m.np) none) h) else none
noncomputable def callN (P : Par) (T : Nat → Option FnM) : Nat → Call
  | 0,_,_,_ => none
  | n + 1,f,args,h => if f = n then bq (T n) fun m => runFn P (callN P T n) m args h else callN P T n f args h
noncomputable def natsEq (a b : List Nat) : Bool := decide (a = b)
noncomputable def sEq (a b : Str) : Bool := natsEq a.cps.toList b.cps.toList
noncomputable def idxOf? (x : Str) : List Str → Option Nat
  | [] => none
  | y :: r => if sEq x y then some 0 else (idxOf? x r).map Nat.succ
noncomputable def kindIn (x : Str) : List (Str × NameKind) → Option NameKind
  | [] => none
  | (y,k) :: r => if sEq x y then some k else kindIn x r
structure Gx where
  fns : List Str
  cls : List Str
  consts : List (Str × Int)
  tabs : List Str
  attrs : List Str
structure Cx where
  ns : List Str
  names : List (Str × NameKind)
noncomputable def constIn (x : Str) : List (Str × Int) → Option Int
  | [] => none
  | (y,k) :: r => if sEq x y then some k else constIn x r
noncomputable def bis : List Str := ["len","max","min","sum","list"]
noncomputable def meths : List Str := ["append","index","count"]
noncomputable def gME (c : Bool) (m : ME) : ME := match c with
  | true => m
  | false => .bad
noncomputable def oME {α : Type} (x : Option α) (f : α → ME) : ME := match x with
  | some k => f k
  | none => .bad
noncomputable def pME {α : Type} (x : Option α) (f : α → ME) (m : ME) : ME := match x with
  | some k => f k
  | none => m
noncomputable def nameK (G : Gx) (Γ : Cx) (x : Str) : NameKind → ME
  | .local => oME (idxOf? x Γ.ns) .var
  | .cell => oME (idxOf? x Γ.ns) .var
  | .globalImplicit => pME (constIn x G.consts) (fun i => .const (.int i)) (oME (idxOf? x G.tabs) .tab)
  | _ => .bad
noncomputable def trName (G : Gx) (Γ : Cx) (x : Str) : ME := oME (kindIn x Γ.names) (nameK G Γ x)
noncomputable def boolN (op : BoolOp) : MEs → ME
  | .nil => .bad
  | .cons e .nil => e
  | .cons e es => match op with
    | .And => .and e (boolN op es)
    | .Or => .or e (boolN op es)
noncomputable def biCall (k : Nat) (as : MEs) : ME := .bi k as
noncomputable def rngM : MEs → ME
  | .cons a .nil => .rng1 a
  | .cons a (.cons b .nil) => .rng2 a b
  | .cons a (.cons b (.cons c .nil)) => .rng3 a b c
  | _ => .bad
noncomputable def callG (G : Gx) (f : Str) (as : MEs) : ME :=
  pME (idxOf? f G.fns) (fun i => gME (Nat.ble 5 i) (.call i as)) (pME (idxOf? f G.cls) (fun c => .new c as) (pME (idxOf? f bis) (fun k => .bi k as) (gME (sEq f "range") (rngM as))))
noncomputable def isGlob : NameKind → Bool
  | .globalImplicit => true
  | _ => false
noncomputable def trCallName (G : Gx) (Γ : Cx) (f : Str) (as : MEs) : ME := oME (kindIn f Γ.names) fun k => gME (isGlob k) (callG G f as)
noncomputable def isBase (e : Expr) : Bool := Nat.beq e.ctorIdx 20 || Nat.beq e.ctorIdx 21 || Nat.beq e.ctorIdx 23
noncomputable def isSetE (e : Expr) : Bool := Nat.beq e.ctorIdx 7
noncomputable def toI : ME → MI
  | .rng1 a => .rng1 a
  | .rng2 a b => .rng2 a b
  | .rng3 a b c => .rng3 a b c
  | .tup as => .disp as
  | e => .val e
noncomputable def toI' (e : Expr) (m : ME) : MI := bif Nat.beq e.ctorIdx 16 || Nat.beq e.ctorIdx 25 then toI m else .val m
noncomputable def relab (names outer : List (Str × NameKind)) : List (Str × NameKind) :=
  names.map fun (n,k) => if k == .free && kindIn n outer == some .cell then (n,.cell) else (n,k)
noncomputable def freeK (Γ : Cx) (n : Str) (k : NameKind) : Bool := match k with
  | .free => kindIn n Γ.names == some .cell && (idxOf? n Γ.ns).isSome
  | .globalExplicit => false
  | _ => true
noncomputable def freeOk (Γ : Cx) (l : List (Str × NameKind)) : Bool := l.all fun p => freeK Γ p.1 p.2
noncomputable def ownK (x n : Str) (k : NameKind) : Bool := match k with
  | .local => sEq n x || sEq n ".0"
  | .cell => sEq n x
  | _ => true
noncomputable def ownOk (x : Str) (l : List (Str × NameKind)) : Bool := l.all fun p => ownK x p.1 p.2
noncomputable def nodupNames : List (Str × NameKind) → Bool
  | [] => true
  | (n,_) :: r => (kindIn n r).isNone && nodupNames r
noncomputable def compOk (Γ : Cx) (x : Str) (sc : Scope) : Bool :=
  sc.kind == .function && freeOk Γ sc.names && ownOk x sc.names && nodupNames sc.names && !sEq x ".0" && (idxOf? ".0" Γ.ns).isNone &&
  (kindIn x sc.names == some .local || kindIn x sc.names == some .cell)
noncomputable def cx1 (Γ : Cx) (x : Str) (sc : Scope) : Cx := ⟨x :: Γ.ns,relab sc.names Γ.names⟩
noncomputable def meth1 (k : Nat) (o : ME) : MEs → ME
  | .cons x .nil => .meth k o x
  | _ => .bad
noncomputable def cmpM (l : ME) (sets : Bool) : List CmpOp → MEs → ME
  | [op],.cons b .nil => .cmp op l b
  | [op1,op2],.cons b (.cons c .nil) => gME (!sets) (.cmp2 op1 op2 l b c)
  | _,_ => .bad
noncomputable def nameE : Expr → Option Str
  | .Name x _ => some x
  | _ => none
mutual
noncomputable def trE (G : Gx) (Γ : Cx) : Expr → ME
  | .Constant c _ _ => match c with
    | .none => .const .none
    | .bool b => .const (.bool b)
    | .int i => .const (.int i)
    | _ => .bad
  | .Name x _ => gME (!sEq x "__debug__") (trName G Γ x)
  | .BoolOp op vs _ => boolN op (trEs G Γ vs)
  | .BinOp l op r _ => .bin op (trE G Γ l) (trE G Γ r)
  | .UnaryOp op x _ => match op with
    | .USub => .neg (trE G Γ x)
    | .Invert => .inv (trE G Γ x)
    | .Not => .not (trE G Γ x)
    | .UAdd => .bad
  | .IfExp t a b _ => .ite (trE G Γ t) (trE G Γ a) (trE G Γ b)
  | .Compare l ops cs _ => cmpM (trE G Γ l) (cs.any isSetE) ops (trEs G Γ cs)
  | .Call f args kws pos => match f,kws with
    | .Name n _,[] => gME (!sEq n "__debug__") (trCallName G Γ n (trEs G Γ args))
    | .Attribute o m apos,[] => gME (isBase o && apos.endLine == pos.line) (oME (idxOf? m meths) fun k => meth1 k (trE G Γ o) (trEs G Γ args))
    | _,_ => .bad
  | .List es _ => .lst (trEs G Γ es)
  | .Tuple es _ _ => .tup (trEs G Γ es)
  | .ListComp elt gens sc _ => match gens with
    | [] => .bad
    | ⟨t,iter,ifs,k⟩ :: r => match r with
      | [] => oME (nameE t) fun x => gME (k == 0 && compOk Γ x sc) (.comp (trE G (cx1 Γ x sc) elt) (toI' iter (trE G Γ iter)) (trEs G (cx1 Γ x sc) ifs))
      | _ => .bad
  | .Attribute o a _ => oME (idxOf? a G.attrs) fun k => gME (isBase o) (.attr (trE G Γ o) k)
  | .Subscript o s _ => match s with
    | .Slice (some lo) none none _ => .sliceFrom (trE G Γ o) (trE G Γ lo)
    | .Slice (some lo) (some hi) none _ => .slice (trE G Γ o) (trE G Γ lo) (trE G Γ hi)
    | s => .sub (trE G Γ o) (trE G Γ s)
  | _ => .bad
noncomputable def trEs (G : Gx) (Γ : Cx) : List Expr → MEs
  | [] => .nil
  | e :: r => .cons (trE G Γ e) (trEs G Γ r)
end
noncomputable def gMS (c : Bool) (m : MS) : MS := match c with
  | true => m
  | false => .bad
noncomputable def oMS {α : Type} (x : Option α) (f : α → MS) : MS := match x with
  | some k => f k
  | none => .bad
noncomputable def isSlot : NameKind → Bool
  | .local => true
  | .cell => true
  | _ => false
theorem isSlot_inv {k : NameKind} (h : isSlot k = true) : k = .local ∨ k = .cell := by
  cases k <;> first | exact .inl rfl | exact .inr rfl | cases h
noncomputable def slotOf (Γ : Cx) (x : Str) : Option Nat := bq (kindIn x Γ.names) fun k => bif isSlot k then idxOf? x Γ.ns else none
theorem slot_inv {Γ : Cx} {x : Str} {i : Nat} (h : slotOf Γ x = some i) : (kindIn x Γ.names = some .local ∨ kindIn x Γ.names = some .cell) ∧ idxOf? x Γ.ns = some i := by
  obtain ⟨k,hk,h⟩ := bq_inv h
  cases c : isSlot k with
  | false => rw [c] at h; exact nn h
  | true => rw [c] at h; exact ⟨by rcases isSlot_inv c with rfl | rfl; exact .inl hk; exact .inr hk,h⟩
theorem slot_of {Γ : Cx} {x : Str} {k : NameKind} {i : Nat} (hk : kindIn x Γ.names = some k) (hl : k = .local ∨ k = .cell) (hi : idxOf? x Γ.ns = some i) : slotOf Γ x = some i := bq_mk hk (by rcases hl with rfl | rfl <;> exact hi)
theorem idx_hit {x y : Str} {r : List Str} (h : sEq x y = true) : idxOf? x (y :: r) = some 0 := if_pos h
theorem idx_miss {x y : Str} {r : List Str} (h : sEq x y = false) : idxOf? x (y :: r) = (idxOf? x r).map Nat.succ := if_neg (by rw [h]; decide)
theorem kindIn_hit {x y : Str} {k : NameKind} {r : List (Str × NameKind)} (h : sEq x y = true) : kindIn x ((y,k) :: r) = some k := if_pos h
theorem kindIn_miss {x y : Str} {k : NameKind} {r : List (Str × NameKind)} (h : ¬ sEq x y = true) : kindIn x ((y,k) :: r) = kindIn x r := if_neg h
theorem nameE_inv {e : Expr} {x : Str} (h : nameE e = some x) : ∃ p,e = .Name x p := by
  cases e with
  | Name y p => exact ⟨p,congrArg (fun z => Expr.Name z p) (Option.some.inj h)⟩
  | _ => exact nn h
noncomputable def slotsOf (Γ : Cx) : List Expr → Option (List Nat)
  | [] => some []
  | e :: r => bq (nameE e) fun x => bq (slotOf Γ x) fun i => bq (slotsOf Γ r) fun is => some (i :: is)
noncomputable def isTupleE (e : Expr) : Bool := Nat.beq e.ctorIdx 25
noncomputable def isSliceE (e : Expr) : Bool := Nat.beq e.ctorIdx 26
noncomputable def isCompE (e : Expr) : Bool := Nat.beq e.ctorIdx 8
noncomputable def tv {α : Type} (t : Expr) (n : Str → α) (a : Expr → Str → α) (s : Expr → Expr → α) (u : List Expr → α) (z : α) : α := match t with
  | .Name x _ => n x
  | .Attribute o b _ => a o b
  | .Subscript o i _ => s o i
  | .Tuple es _ _ => u es
  | _ => z
mutual
noncomputable def trS (G : Gx) (Γ : Cx) : Stmt → MS
  | .Assign ts v _ => match ts with
    | [] => .bad
    | t :: r => match r with
      | [] => tv t (fun x => oMS (slotOf Γ x) fun i => .assign i (trE G Γ v)) (fun o a => oMS (idxOf? a G.attrs) fun k => .setattr (trE G Γ o) k (trE G Γ v))
        (fun o i => gMS (!isSliceE i) (.setsub (trE G Γ o) (trE G Γ i) (trE G Γ v))) (fun es => gMS (!isTupleE v) (oMS (slotsOf Γ es) fun is => .unpack is (trE G Γ v))) .bad
      | _ => .bad
  | .AugAssign t op v _ => tv t (fun x => oMS (slotOf Γ x) fun i => .aug i op (trE G Γ v)) (fun o a => oMS (idxOf? a G.attrs) fun k => .augattr (trE G Γ o) k op (trE G Γ v))
    (fun o i => gMS (!isSliceE i) (.augsub (trE G Γ o) (trE G Γ i) op (trE G Γ v))) (fun _ => .bad) .bad
  | .For t it b orelse _ => match orelse with
    | [] => tv t (fun x => oMS (slotOf Γ x) fun i => .for i (toI' it (trE G Γ it)) (trSs G Γ b)) (fun _ _ => .bad) (fun _ _ => .bad) (fun es => oMS (slotsOf Γ es) fun is => .forT is (toI' it (trE G Γ it)) (trSs G Γ b)) .bad
    | _ => .bad
  | .While t b orelse _ => match orelse with
    | [] => .while (trE G Γ t) (trSs G Γ b)
    | _ => .bad
  | .If t a b _ => .ite (trE G Γ t) (trSs G Γ a) (trSs G Γ b)
  | .Return v _ => match v with
    | some e => .ret (trE G Γ e)
    | none => .bad
  | .Break _ => .brk
  | .Continue _ => .cont
  | .Expr v _ => gMS (!isCompE v) (.expr (trE G Γ v))
  | _ => .bad
noncomputable def trSs (G : Gx) (Γ : Cx) : List Stmt → MSs
  | [] => .nil
  | s :: r => .cons (trS G Γ s) (trSs G Γ r)
end
structure FD where
  name : Str
  qual : Str
  params : Arguments
  body : List Stmt
  scope : Scope
noncomputable def fnV : Stmt → Option FD
  | .FunctionDef n a b _ _ _ sc _ _ _ => some ⟨n,n,a,b,sc⟩
  | _ => none
noncomputable def defsOf (l : List Stmt) : List FD := l.filterMap fnV
noncomputable def initOf (l : List Stmt) (c : Str) : FD := ((defsOf l).find? fun d => sEq d.name "__init__").elim ⟨c,c,⟨[],[],none,[],[],none,[]⟩,[],⟨.function,[],false,false,[]⟩⟩ fun d => ⟨d.name,c ++ ".__init__",d.params,d.body,d.scope⟩
noncomputable def clsV : Stmt → Option (Str × FD)
  | .ClassDef n _ _ b _ _ _ _ _ _ _ => some (n,initOf b n)
  | _ => none
noncomputable def clsOf (l : List Stmt) : List (Str × FD) := l.filterMap clsV
noncomputable def oneN : List Expr → Option Str
  | [t] => nameE t
  | _ => none
noncomputable def asgV : Stmt → Option (Str × Expr)
  | .Assign ts v _ => bq (oneN ts) fun x => some (x,v)
  | _ => none
noncomputable def intC : Const → Option Int
  | .int i => some i
  | _ => none
noncomputable def intE : Expr → Option Int
  | .Constant c _ _ => intC c
  | _ => none
noncomputable def constsOf (l : List Stmt) : List (Str × Int) := l.filterMap fun s => bq (asgV s) fun p => bq (intE p.2) fun i => some (p.1,i)
noncomputable def tabsOf (l : List Stmt) : List Str := l.filterMap fun s => bq (asgV s) fun p => bif Nat.beq p.2.ctorIdx 24 || Nat.beq p.2.ctorIdx 25 then some p.1 else none
noncomputable def slotNames (l : List (Str × NameKind)) : List Str := (l.filter fun p => isSlot p.2).map Prod.fst
noncomputable def fdCx (d : FD) : Cx := ⟨slotNames d.scope.names,d.scope.names⟩
noncomputable def strsEq : List Str → List Str → Bool
  | [],[] => true
  | a :: l,b :: r => sEq a b && strsEq l r
  | _,_ => false
noncomputable def fdOk (d : FD) : Bool :=
  d.params.posonlyargs.isEmpty && d.params.vararg.isNone && d.params.kwonlyargs.isEmpty && d.params.kw_defaults.isEmpty && d.params.kwarg.isNone && d.params.defaults.isEmpty &&
  d.scope.kind == .function && !d.scope.isGenerator && !d.scope.isCoroutine && nodupNames d.scope.names && d.scope.names.all (fun x => x.2 != .free) &&
  strsEq (d.params.args.map (·.arg)) ((slotNames d.scope.names).take d.params.args.length)
noncomputable def trF (G : Gx) (d : FD) : Option FnM :=
  if fdOk d then some ⟨d.params.args.length,(fdCx d).ns.length,trSs G (fdCx d) d.body⟩ else none
noncomputable def attrNames : List Str := ["files","ranks","size","full","has_double","has_castling","file_masks","rank_masks","rays","king","knight","pawn","castles","rights_lost",
  "geo","zob","board","kinds","sides","side","rights","ep","half","key","history","by","twice","reaches","shields","pieces"]
noncomputable def body : List Stmt := PySem.Challenge.pw_nt0453_01.main.body
noncomputable def fdList : List FD := (clsOf body).map (·.2) ++ defsOf body
noncomputable def gx : Gx := ⟨(clsOf body).map (fun _ => Str.mk #[]) ++ (defsOf body).map (·.name),(clsOf body).map (·.1),constsOf body,tabsOf body,attrNames⟩
noncomputable def fnT (i : Nat) : Option FnM := bq fdList[i]? fun d => trF gx d
end Mine
namespace Mine
open PySem PySem.W PySem.Calls PyProof.Rows
noncomputable def VR (I : List Addr) : V → Value → Prop
  | .none,v => v = .none
  | .bool b,v => v = .bool b
  | .int i,v => ∃ t,v = .int i t
  | .ref a,v => ∃ b,I[a]? = some b ∧ v = .ref b
  | .con a,v => v = .ref a
noncomputable def LR (I : List Addr) (xs : List V) (vs : List Value) : Prop :=
  xs.length = vs.length ∧ ∀ (i : Nat) (x : V) (v : Value),xs[i]? = some x → vs[i]? = some v → VR I x v
structure Gp where
  cls : Nat → Addr
  an : Nat → Str
  na : Nat
  okc : Nat → Bool
noncomputable def OR (G : Gp) (I : List Addr) : O → Obj → Prop
  | .lst xs,o => ∃ vs n,o = listOf vs.toArray n ∧ LR I xs vs
  | .tup xs,o => ∃ vs n,o = { cls := .type "tuple",data := .seq vs.toArray n } ∧ LR I xs vs
  | .rng a b c,o => ∃ t u v,o = { cls := .type "range",data := .fields #[.int a t,.int b u,.int c v] }
  | .inst c d,o => ∃ dx,I[d]? = some dx ∧ o = instObj (G.cls c) dx ∧ G.okc c = true
  | .dct fs,o => ∃ es n,o = dictOf es n ∧ es.length = fs.length ∧ ∀ (i : Nat) (k : Nat) (x : V),fs[i]? = some (k,x) → k < G.na ∧ ∃ e : DictEntry,es[i]? = some e ∧ (∃ t,e.key = .str (G.an k) t) ∧ VR I x e.val
theorem pre_get {I I' : List Addr} (p : I <+: I') {a : Nat} {b : Addr} (e : I[a]? = some b) : I'[a]? = some b := by
  obtain ⟨t,rfl⟩ := p
  rw [List.getElem?_append_left (by obtain ⟨h,_⟩ := List.getElem?_eq_some_iff.mp e; exact h),e]
theorem VR.mono {I I' : List Addr} (p : I <+: I') {x : V} {v : Value} (h : VR I x v) : VR I' x v := by
  cases x <;> first | exact h | (obtain ⟨b,e,r⟩ := h; exact ⟨b,pre_get p e,r⟩)
theorem LR.mono {I I' : List Addr} (p : I <+: I') {xs : List V} {vs : List Value} (h : LR I xs vs) : LR I' xs vs :=
  ⟨h.1,fun i x v a b => (h.2 i x v a b).mono p⟩
theorem OR.mono {G : Gp} {I I' : List Addr} (p : I <+: I') {o : O} {ob : Obj} (h : OR G I o ob) : OR G I' o ob := by
  cases o with
  | lst xs => obtain ⟨vs,n,e,l⟩ := h; exact ⟨vs,n,e,l.mono p⟩
  | tup xs => obtain ⟨vs,n,e,l⟩ := h; exact ⟨vs,n,e,l.mono p⟩
  | rng a b c => exact h
  | inst c d => obtain ⟨dx,e,r⟩ := h; exact ⟨dx,pre_get p e,r⟩
  | dct fs =>
    obtain ⟨es,n,e,l,k⟩ := h
    exact ⟨es,n,e,l,fun i a x q => let ⟨hk,en,a1,a2,a3⟩ := k i a x q; ⟨hk,en,a1,a2,a3.mono p⟩⟩
theorem VR.back {I I' : List Addr} (p : I <+: I') {x : V} {v v₀ : Value} (h₀ : VR I x v₀) (h : VR I' x v) : VR I x v := by
  cases x with
  | ref a =>
    obtain ⟨b,e,_⟩ := h₀
    obtain ⟨b',e',r⟩ := h
    rw [pre_get p e] at e'; cases e'
    exact ⟨b,e,r⟩
  | _ => exact h
theorem LR.back {I I' : List Addr} (p : I <+: I') {xs : List V} {vs vs₀ : List Value} (h₀ : LR I xs vs₀) (h : LR I' xs vs) : LR I xs vs :=
  ⟨h.1,fun i x v a b => by
    have hl := h₀.1
    obtain ⟨hi,_⟩ := List.getElem?_eq_some_iff.mp a
    exact (h₀.2 i x _ a (List.getElem?_eq_getElem (by (first | lia | omega)))).back p (h.2 i x v a b)⟩
theorem OR.back {G : Gp} {I I' : List Addr} (p : I <+: I') {o : O} {ob ob₀ : Obj} (h₀ : OR G I o ob₀) (h : OR G I' o ob) : OR G I o ob := by
  cases o with
  | lst xs => obtain ⟨vs,n,e,l⟩ := h; obtain ⟨_,_,_,l₀⟩ := h₀; exact ⟨vs,n,e,l₀.back p l⟩
  | tup xs => obtain ⟨vs,n,e,l⟩ := h; obtain ⟨_,_,_,l₀⟩ := h₀; exact ⟨vs,n,e,l₀.back p l⟩
  | rng a b c => exact h
  | inst c d =>
    obtain ⟨dx,e,r⟩ := h
    obtain ⟨d0,e0,_⟩ := h₀
    rw [pre_get p e0] at e; cases e
    exact ⟨dx,e0,r⟩
  | dct fs =>
    obtain ⟨es,n,e,l,k⟩ := h
    obtain ⟨_,_,_,_,k₀⟩ := h₀
    exact ⟨es,n,e,l,fun i a x q => let ⟨hk,en,a1,a2,a3⟩ := k i a x q; let ⟨_,_,_,_,b3⟩ := k₀ i a x q; ⟨hk,en,a1,a2,b3.back p a3⟩⟩
structure Rel (G : Gp) (h₀ : Heap) (I : List Addr) (h : H) (s : Shared) : Prop where
  stays : ∀ b o,h₀.get? b = some o → s.heap.get? b = some o
  len : I.length = h.length
  nodup : I.Nodup
  fresh : ∀ b ∈ I,h₀.get? b = none
  at_ : ∀ (k : Nat) (o : O) (b : Addr),h[k]? = some o → I[k]? = some b → ∃ ob,s.heap.get? b = some ob ∧ OR G I o ob
structure Ext (P : Addr → Prop) (I : List Addr) (s : Shared) (I' : List Addr) (s' : Shared) : Prop where
  same : ∃ h' tk,s' = { s with heap := h',toks := tk }
  pre : I <+: I'
  new : ∀ b ∈ I',b ∈ I ∨ s.heap.get? b = none
  keep : ∀ b o,b ∉ I → ¬ P b → s.heap.get? b = some o → s'.heap.get? b = some o
  live : ∀ b,¬ P b → s'.heap.get? b = none → s.heap.get? b = none
  off : ∀ b ∈ I',b ∈ I ∨ ¬ P b
noncomputable abbrev NoP : Addr → Prop := fun _ => False
theorem Ext.refl {P : Addr → Prop} {I : List Addr} {s : Shared} : Ext P I s I s := ⟨⟨_,_,rfl⟩,List.prefix_refl _,fun _ h => .inl h,fun _ _ _ _ e => e,fun _ _ e => e,fun _ h => .inl h⟩
theorem Ext.tok {P : Addr → Prop} {I I' : List Addr} {s s' : Shared} (x : Ext P I s I' s') (t : Nat) : Ext P I s I' { s' with toks := t } :=
  ⟨let ⟨h',_,e⟩ := x.same; ⟨h',t,by rw [e]⟩,x.pre,x.new,x.keep,x.live,x.off⟩
theorem Rel.tok {G : Gp} {h₀ : Heap} {I : List Addr} {h : H} {s : Shared} (x : Rel G h₀ I h s) (t : Nat) : Rel G h₀ I h { s with toks := t } :=
  ⟨x.stays,x.len,x.nodup,x.fresh,x.at_⟩
theorem Ext.trans {P : Addr → Prop} {I I' I'' : List Addr} {s s' s'' : Shared} (x : Ext P I s I' s') (y : Ext P I' s' I'' s'') : Ext P I s I'' s'' := by
  refine ⟨?_,x.pre.trans y.pre,fun b hb => ?_,fun b o hb hp e => ?_,fun b hp e => x.live b hp (y.live b hp e),fun b hb => ?off⟩
  case off =>
    rcases y.off b hb with q | q
    · exact x.off b q
    · exact .inr q
  · obtain ⟨_,_,rfl⟩ := x.same
    obtain ⟨h2,t2,rfl⟩ := y.same
    exact ⟨h2,t2,rfl⟩
  · rcases y.new b hb with q | q
    · exact x.new b q
    · rcases y.off b hb with z | z
      · exact x.new b z
      · exact .inr (x.live b z q)
  · have h1 := x.keep b o hb hp e
    have hb' : b ∉ I' := fun q => by
      rcases x.new b q with r | r
      · exact hb r
      · rw [e] at r; cases r
    exact y.keep b o hb' hp h1
theorem Ext.mono {P Q : Addr → Prop} {I I' : List Addr} {s s' : Shared} (x : Ext P I s I' s') (h : ∀ b,P b → Q b) (h' : ∀ b,Q b → b ∉ I') : Ext Q I s I' s' :=
  ⟨x.same,x.pre,x.new,fun b o a c e => x.keep b o a (fun q => c (h b q)) e,fun b c e => x.live b (fun q => c (h b q)) e,fun b hb => .inr fun q => h' b q hb⟩
theorem Ext.out {P : Addr → Prop} {I I' : List Addr} {s s' : Shared} (x : Ext P I s I' s') {b : Addr} (hb : b ∉ I) {o : Obj} (e : s.heap.get? b = some o) : b ∉ I' := fun q => by
  rcases x.new b q with r | r
  · exact hb r
  · rw [e] at r; cases r
theorem Rel.outside {G : Gp} {h₀ : Heap} {I : List Addr} {h : H} {s : Shared} (x : Rel G h₀ I h s) {h' : Heap} {tk : Nat} (k : ∀ b o,b ∈ I ∨ (h₀.get? b).isSome = true → s.heap.get? b = some o → h'.get? b = some o) :
    Rel G h₀ I h { s with heap := h',toks := tk } :=
  ⟨fun b o e => k b o (.inr (by rw [e]; rfl)) (x.stays b o e),x.len,x.nodup,x.fresh,fun i o b a c => let ⟨ob,e,r⟩ := x.at_ i o b a c; ⟨ob,k b ob (.inl (List.mem_of_getElem? c)) e,r⟩⟩
theorem Rel.keeps {G : Gp} {h₀ : Heap} {I : List Addr} {h : H} {s : Shared} (x : Rel G h₀ I h s) {h' : Heap} {tk : Nat} (k : ∀ b o,s.heap.get? b = some o → h'.get? b = some o) :
    Rel G h₀ I h { s with heap := h',toks := tk } := x.outside fun b o _ e => k b o e
theorem Ext.keeps {P : Addr → Prop} {I : List Addr} {s : Shared} {h' : Heap} {tk : Nat} (k : ∀ b o,s.heap.get? b = some o → h'.get? b = some o) : Ext P I s I { s with heap := h',toks := tk } :=
  ⟨⟨_,_,rfl⟩,List.prefix_refl _,fun _ h => .inl h,fun b o _ _ e => k b o e,fun b _ e => (by
    cases q : s.heap.get? b with
    | none => rfl
    | some o => rw [show h'.get? b = some o from k b o q] at e; cases e),fun _ h => .inl h⟩
theorem Rel.new {G : Gp} {h₀ : Heap} {I : List Addr} {h : H} {s : Shared} (x : Rel G h₀ I h s) {h' : Heap} {tk : Nat} {b : Addr} {ob : Obj} {o : O} (k : ∀ b o,s.heap.get? b = some o → h'.get? b = some o)
    (hb : s.heap.get? b = none) (e : h'.get? b = some ob) (r : OR G (I ++ [b]) o ob) : Rel G h₀ (I ++ [b]) (h ++ [o]) { s with heap := h',toks := tk } ∧ Ext NoP I s (I ++ [b]) { s with heap := h',toks := tk } := by
  have hn : b ∉ I := fun q => by
    obtain ⟨i,hi⟩ := List.getElem?_of_mem q
    have hl : i < h.length := by rw [← x.len]; exact (List.getElem?_eq_some_iff.mp hi).1
    obtain ⟨ob',e',_⟩ := x.at_ i _ b (List.getElem?_eq_getElem hl) hi
    rw [hb] at e'; exact nn e'
  refine ⟨⟨fun c q ec => k c q (x.stays c q ec),by simp [x.len],?_,fun c hc => ?_,fun i o' c a d => ?_⟩,⟨⟨_,_,rfl⟩,List.prefix_append _ _,fun c hc => ?_,fun c q _ _ ec => k c q ec,fun c _ ec => ?_,fun c _ => .inr fun q => q⟩⟩
  · rw [List.nodup_append]
    refine ⟨x.nodup,by simp,fun a ha c hc => ?_⟩
    rw [List.mem_singleton.mp hc]
    rintro rfl; exact hn ha
  · rcases List.mem_append.mp hc with hc | hc
    · exact x.fresh c hc
    · rw [List.mem_singleton.mp hc]
      cases q : h₀.get? b with
      | none => rfl
      | some q' => have := x.stays b q' q; rw [hb] at this; exact nn this
  · by_cases hi : i < h.length
    · rw [List.getElem?_append_left hi] at a
      rw [List.getElem?_append_left (by rw [x.len]; exact hi)] at d
      obtain ⟨ob',e',r'⟩ := x.at_ i o' c a d
      exact ⟨ob',k _ _ e',r'.mono (List.prefix_append _ _)⟩
    · rw [List.getElem?_append_right (by (first | lia | omega))] at a
      rw [List.getElem?_append_right (by rw [x.len]; (first | lia | omega))] at d
      have : i - h.length = 0 := by
        have := (List.getElem?_eq_some_iff.mp a).1
        simp at this; (first | lia | omega)
      rw [this] at a
      rw [x.len,this] at d
      simp at a d
      subst a d
      exact ⟨ob,e,r⟩
  · rcases List.mem_append.mp hc with hc | hc
    · exact .inl hc
    · rw [List.mem_singleton.mp hc]; exact .inr hb
  · cases q : s.heap.get? c with
    | none => rfl
    | some o' => rw [show h'.get? c = some o' from k c o' q] at ec; cases ec
theorem Rel.set {G : Gp} {h₀ : Heap} {I : List Addr} {h : H} {s : Shared} (x : Rel G h₀ I h s) {h' : Heap} {tk : Nat} {i : Nat} {b : Addr} {ob : Obj} {o : O} (hb : I[i]? = some b) (k : ∀ c,c ≠ b → h'.get? c = s.heap.get? c)
    (e : h'.get? b = some ob) (r : OR G I o ob) : Rel G h₀ I (h.set i o) { s with heap := h',toks := tk } ∧ Ext NoP I s I { s with heap := h',toks := tk } := by
  have hm : b ∈ I := List.mem_of_getElem? hb
  refine ⟨⟨fun c q ec => ?_,by rw [List.length_set]; exact x.len,x.nodup,x.fresh,fun j o' c a d => ?_⟩,⟨⟨_,_,rfl⟩,List.prefix_refl _,fun _ h => .inl h,fun c q hc _ ec => ?_,fun c _ ec => ?_,fun _ h => .inl h⟩⟩
  · have : c ≠ b := by rintro rfl; rw [x.fresh c hm] at ec; cases ec
    exact (k c this).trans (x.stays c q ec)
  · by_cases hj : i = j
    · subst hj
      rw [hb] at d; cases d
      rw [List.getElem?_set_self (by have := (List.getElem?_eq_some_iff.mp a).1; rwa [List.length_set] at this)] at a
      cases a
      exact ⟨ob,e,r⟩
    · rw [List.getElem?_set_ne hj] at a
      have hc : c ≠ b := by
        rintro rfl
        have h1 := (List.getElem?_eq_some_iff.mp hb)
        have h2 := (List.getElem?_eq_some_iff.mp d)
        obtain ⟨l1,e1⟩ := h1
        obtain ⟨l2,e2⟩ := h2
        have pw := List.pairwise_iff_getElem.mp x.nodup
        rcases Nat.lt_or_gt_of_ne hj with q | q
        · exact pw i j l1 l2 q (e1.trans e2.symm)
        · exact pw j i l2 l1 q (e2.trans e1.symm)
      obtain ⟨ob',e',r'⟩ := x.at_ j o' c a d
      exact ⟨ob',(k c hc).trans e',r'⟩
  · have : c ≠ b := by rintro rfl; exact hc hm
    exact (k c this).trans ec
  · by_cases hc : c = b
    · subst hc; rw [show h'.get? c = some ob from e] at ec; cases ec
    · rw [← k c hc]; exact ec
theorem Rel.get {G : Gp} {h₀ : Heap} {I : List Addr} {h : H} {s : Shared} (x : Rel G h₀ I h s) {a : Nat} {o : O} (e : h[a]? = some o) : ∃ b ob,I[a]? = some b ∧ s.heap.get? b = some ob ∧ OR G I o ob := by
  have hl : a < I.length := by rw [x.len]; exact (List.getElem?_eq_some_iff.mp e).1
  obtain ⟨ob,e1,r⟩ := x.at_ a o _ e (List.getElem?_eq_getElem hl)
  exact ⟨_,ob,List.getElem?_eq_getElem hl,e1,r⟩
theorem Rel.drop {G : Gp} {h₀ : Heap} {I I' : List Addr} {h g : H} {s s' : Shared} (x : Rel G h₀ I h s) (y : Rel G h₀ I' (h ++ g) s') (p : I <+: I') : Rel G h₀ I h s' := by
  refine ⟨y.stays,x.len,x.nodup,x.fresh,fun k o b a c => ?_⟩
  have hk := (List.getElem?_eq_some_iff.mp a).1
  obtain ⟨ob,e,r⟩ := y.at_ k o b (by rw [List.getElem?_append_left hk]; exact a) (pre_get p c)
  obtain ⟨ob0,_,r0⟩ := x.at_ k o b a c
  exact ⟨ob,e,r0.back p r⟩
noncomputable def ConOk (G : Gp) (P : Par) (h₀ : Heap) : Prop := ∀ a o,P.C a = some o → ∃ ob,h₀.get? a = some ob ∧ OR G [] o ob
noncomputable def Pv (G : Gp) (h₀ : Heap) (I : List Addr) (s : Shared) (h' : H) (v : V) (r : Value) (s' : Shared) : Prop :=
  ∃ I',Ext NoP I s I' s' ∧ Rel G h₀ I' h' s' ∧ VR I' v r
section
variable {prog : Program} {w : World} {A : Around} {E : Value → Shared → Prop} {G : Gp} {P : Par} {h₀ : Heap} {I : List Addr} {h : H} {s : Shared}
theorem obj_sound (C : ConOk G P h₀) (R : Rel G h₀ I h s) {v : V} {v' : Value} {o : O} (hv : VR I v v') (e : objOf P.C h v = some o) :
    ∃ b ob,v' = .ref b ∧ s.heap.get? b = some ob ∧ OR G I o ob := by
  cases v with
  | ref a =>
    obtain ⟨b,e1,rfl⟩ := hv
    obtain ⟨b',ob,e2,e3,r⟩ := R.get (show h[a]? = some o from e)
    rw [e1] at e2; cases e2
    exact ⟨b,ob,rfl,e3,r⟩
  | con a =>
    obtain ⟨ob,e1,r⟩ := C a o e
    exact ⟨a,ob,hv,R.stays _ _ e1,r.mono (List.nil_prefix)⟩
  | _ => cases e
theorem isList_of {o : Obj} {b : Addr} {vs : List Value} {n : Nat} {hp : Heap} (e : hp.get? b = some o) (r : o = listOf vs.toArray n) : hp.IsList b vs.toArray := ⟨o,e,by rw [r],n,by rw [r]⟩
theorem isTup_of {o : Obj} {b : Addr} {vs : List Value} {n : Nat} {hp : Heap} (e : hp.get? b = some o) (r : o = { cls := .type "tuple",data := .seq vs.toArray n }) : IsTup hp b vs.toArray := ⟨o,e,by rw [r],n,by rw [r]⟩
theorem ints_sound : ∀ {xs : List V} {vs : List Value} {l : List Int},LR I xs vs → isInts xs = some l → IntsAre vs l
  | [],[],_,_,e => by cases e; exact .nil
  | [],_ :: _,_,h,_ => by cases h.1
  | _ :: _,[],_,h,_ => by cases h.1
  | x :: xs,v :: vs,l,h,e => by
    cases x with
    | int i =>
      obtain ⟨r,e1,rfl⟩ := Option.map_eq_some_iff.mp (show (isInts xs).map (i :: ·) = some l from e)
      obtain ⟨t,rfl⟩ : VR I (.int i) v := h.2 0 _ _ rfl rfl
      exact .cons i t (ints_sound ⟨by have := h.1; simpa using this,fun j x v a b => h.2 (j + 1) x v (by simpa using a) (by simpa using b)⟩ e1)
    | _ => cases e
theorem LR.nil_iff {xs : List V} {vs : List Value} (h : LR I xs vs) : vs.toArray.isEmpty = xs.isEmpty := by
  cases xs <;> cases vs <;> first | rfl | cases h.1
theorem truthy_sound (C : ConOk G P h₀) (R : Rel G h₀ I h s) {v : V} {v' : Value} {b : Bool} (hv : VR I v v') (e : truthy P.C h v = some b)
    {Q : Bool → Shared → Prop} (hq : ∀ tk,Q b { s with toks := tk }) : wpAny (model prog w) A (PySem.truthy v') Q E s := by
  have ref : ∀ xs,objOf P.C h v = some (.lst xs) → xs.length ≤ lenMax → b = !xs.isEmpty → wpAny (model prog w) A (PySem.truthy v') Q E s := by
    intro xs eo hlen eb
    obtain ⟨a,ob,rfl,e1,vs,n,e2,l⟩ := obj_sound C R hv eo
    refine wpAny_truthy_list (isList_of e1 e2) (by rw [List.size_toArray,← l.1]; unfold lenMax at hlen; (first | lia | omega)) ?_
    rw [l.nil_iff,← eb]
    exact hq _
  cases v with
  | none => cases hv; cases e; exact truthy_none (hq s.toks)
  | bool b' => cases hv; cases e; exact wpAny_truthy_bool (hq s.toks)
  | int i => obtain ⟨t,rfl⟩ := hv; cases e; exact truthy_int (hq s.toks)
  | ref a =>
    obtain ⟨xs,eo,e⟩ := bL_inv (show bL _ _ = _ from e)
    obtain ⟨hl,e⟩ := if_inv e
    cases e; exact ref xs eo hl rfl
  | con a =>
    obtain ⟨xs,eo,e⟩ := bL_inv (show bL _ _ = _ from e)
    obtain ⟨hl,e⟩ := if_inv e
    cases e; exact ref xs eo hl rfl
theorem small_ltA {i : Int} (h : small i = true) : i.natAbs < 2 ^ 64 := of_decide_eq_true h
theorem small_bits {i : Int} (h : small i = true) : Builtin.Int.intBits i ≤ 64 := intBits_le (small_ltA h)
theorem small_noPylong {a b : Int} (h : small b = true) : Builtin.divisionGoesByPylong a b = false := by
  refine PyProof.noPylong_of_log2 ?_
  have h1 := small_ltA h
  by_cases hz : b.natAbs = 0
  · rw [hz]; decide
  · have := (Nat.log2_lt hz).mpr h1; (first | lia | omega)
inductive BinK (a b : Int) : Operator → Int → Prop
  | add : BinK a b .Add (a + b)
  | sub : BinK a b .Sub (a - b)
  | mul (h : (small a || small b) = true) : BinK a b .Mult (a * b)
  | div (h : b ≠ 0) (h' : small b = true) : BinK a b .FloorDiv (a.fdiv b)
  | mod (h : b ≠ 0) : BinK a b .Mod (a.fmod b)
  | shl (h : 0 ≤ b) (h1 : b ≤ 1000) (h2 : small a = true) : BinK a b .LShift (a * 2 ^ b.toNat)
  | shr (h : 0 ≤ b) : BinK a b .RShift (a.fdiv (2 ^ b.toNat))
  | and : BinK a b .BitAnd (Builtin.bitAnd a b)
  | or : BinK a b .BitOr (Builtin.bitOr a b)
  | xor : BinK a b .BitXor (Builtin.bitXor a b)
theorem binK {op : Operator} {a b r : Int} (e : binInt op a b = some r) : BinK a b op r := by
  cases op with
  | Add => cases e; exact .add
  | Sub => cases e; exact .sub
  | Mult => obtain ⟨h,e⟩ := if_inv (show ite _ _ _ = _ from e); cases e; exact .mul h
  | FloorDiv => obtain ⟨h,e⟩ := if_inv (show ite _ _ _ = _ from e); cases e; exact .div (of_decide_eq_true (Bool.and_eq_true_iff.mp h).1) (Bool.and_eq_true_iff.mp h).2
  | Mod => obtain ⟨h,e⟩ := if_inv (show ite _ _ _ = _ from e); cases e; exact .mod h
  | LShift =>
    obtain ⟨h,e⟩ := if_inv (show ite _ _ _ = _ from e)
    obtain ⟨h,h2⟩ := Bool.and_eq_true_iff.mp h
    cases e; exact .shl (of_decide_eq_true (Bool.and_eq_true_iff.mp h).1) (of_decide_eq_true (Bool.and_eq_true_iff.mp h).2) h2
  | RShift => obtain ⟨h,e⟩ := if_inv (show ite _ _ _ = _ from e); cases e; exact .shr h
  | BitAnd => cases e; exact .and
  | BitOr => cases e; exact .or
  | BitXor => cases e; exact .xor
  | _ => exact nn e
theorem mul_door {a b : Int} (h : (small a || small b) = true) : Builtin.Int.intBits a ≤ 64 ∨ Builtin.Int.intBits b ≤ 64 := (Bool.or_eq_true_iff.mp h).imp small_bits small_bits
theorem binInt_sound {op : Operator} {a b r : Int} {t u : Tok} (e : binInt op a b = some r) {Q : Value → Shared → Prop} (hq : ∀ tk tk',Q (.int r tk) { s with toks := tk' }) :
    wpAny (model prog w) A (binaryOp op (.int a t) (.int b u)) Q E s := by
  cases binK e with
  | add => exact add_int (hq _ _)
  | sub => exact sub_int (hq _ _)
  | mul h => exact mul_int (hq _ _) ((mul_door h).elim .of_left .of_right)
  | div h h' => exact floordiv_int h (hq _ _) (.inl (small_noPylong h'))
  | mod h => exact mod_int' h (hq _ _)
  | shl h h1 h2 => exact lshift_int_small h (by (first | lia | omega)) (small_ltA h2) (hq _ _)
  | shr h => exact rshift_int h (hq _ _)
  | and => exact and_int (hq _ _)
  | or => exact or_int (hq _ _)
  | xor => exact xor_int (hq _ _)
theorem augInt_sound {op : Operator} {a b r : Int} {t u : Tok} (e : binInt op a b = some r) {Q : Value → Shared → Prop} (hq : ∀ tk tk',Q (.int r tk) { s with toks := tk' }) :
    wpAny (model prog w) A (inplaceOp op (.int a t) (.int b u)) Q E s := by
  cases binK e with
  | add => exact iadd_int (hq _ _)
  | sub => exact isub_int (hq _ _)
  | mul h => exact imul_int (hq _ _) ((mul_door h).elim .of_left .of_right)
  | div h h' => exact ifloordiv_int h (hq _ _) (.inl (small_noPylong h'))
  | mod h => exact imod_int h (hq _ _)
  | shl h h1 h2 => exact ilshift_int_small h (by (first | lia | omega)) (small_ltA h2) (hq _ _)
  | shr h => exact irshift_int h (hq _ _)
  | and => exact iand_int (hq _ _)
  | or => exact ior_int (hq _ _)
  | xor => exact ixor_int (hq _ _)
theorem get_none_of_size {hp : Heap} : hp.get? hp.objs.size = none := by
  cases q : hp.get? hp.objs.size with
  | none => rfl
  | some o => exact absurd (Heap.lt_size q) (Nat.lt_irrefl _)
theorem pv_new {ob : Obj} {o : O} {tk : Tok} (R : Rel G h₀ I h s) (hf : ob.isFreed = false) (r : OR G I o ob) :
    Pv G h₀ I s (h ++ [o]) (.ref h.length) (.ref s.heap.objs.size) { s with heap := s.heap.push ob,toks := tk } := by
  obtain ⟨a,b⟩ := R.new (h' := s.heap.push ob) (tk := tk) (b := s.heap.objs.size) (fun b o e => Heap.get?_push_of_some _ e) get_none_of_size (Heap.get?_push_size _ hf) (r.mono (List.prefix_append _ _))
  exact ⟨_,b,a,_,by rw [← R.len,List.getElem?_append_right (Nat.le_refl _),Nat.sub_self]; rfl,rfl⟩
theorem pv_same {tk : Tok} {v : V} {r : Value} (R : Rel G h₀ I h s) (hv : VR I v r) : Pv G h₀ I s h v r { s with toks := tk } :=
  ⟨I,Ext.refl.tok tk,R.tok tk,hv⟩
theorem pv_keeps {h' : Heap} {tk : Tok} {v : V} {r : Value} (R : Rel G h₀ I h s) (hv : VR I v r) (k : ∀ b o,s.heap.get? b = some o → h'.get? b = some o) : Pv G h₀ I s h v r { s with heap := h',toks := tk } :=
  ⟨I,Ext.keeps k,R.keeps k,hv⟩
theorem pv_set {h' : Heap} {tk : Tok} {v : V} {r : Value} {i : Nat} {b : Addr} {ob : Obj} {o : O} (R : Rel G h₀ I h s) (hv : VR I v r) (hb : I[i]? = some b) (k : ∀ c,c ≠ b → h'.get? c = s.heap.get? c)
    (e : h'.get? b = some ob) (q : OR G I o ob) : Pv G h₀ I s (h.set i o) v r { s with heap := h',toks := tk } := by
  obtain ⟨a,c⟩ := R.set (tk := tk) hb k e q
  exact ⟨I,c,a,hv⟩
theorem LR.append {xs ys : List V} {vs ws : List Value} (a : LR I xs vs) (b : LR I ys ws) : LR I (xs ++ ys) (vs ++ ws) := by
  refine ⟨by simp [a.1,b.1],fun i x v p q => ?_⟩
  by_cases hi : i < xs.length
  · rw [List.getElem?_append_left hi] at p
    rw [List.getElem?_append_left (by rw [← a.1]; exact hi)] at q
    exact a.2 i x v p q
  · rw [List.getElem?_append_right (by (first | lia | omega))] at p
    rw [List.getElem?_append_right (by rw [← a.1]; (first | lia | omega)),← a.1] at q
    exact b.2 _ x v p q
theorem LR.nil : LR I [] [] := ⟨rfl,fun i x v p _ => by simp at p⟩
theorem LR.cons {x : V} {v : Value} {xs : List V} {vs : List Value} (a : VR I x v) (b : LR I xs vs) : LR I (x :: xs) (v :: vs) := by
  refine ⟨by simp [b.1],fun i y u p q => ?_⟩
  cases i with
  | zero => simp at p q; subst p q; exact a
  | succ i => exact b.2 i y u (by simpa using p) (by simpa using q)
theorem LR.one {x : V} {v : Value} (a : VR I x v) : LR I [x] [v] := .cons a .nil
theorem LR.at {xs : List V} {vs : List Value} (a : LR I xs vs) {i : Nat} {x : V} (e : xs[i]? = some x) : ∃ v,vs[i]? = some v ∧ VR I x v := by
  have h1 := (List.getElem?_eq_some_iff.mp e).1
  have h2 : i < vs.length := by rw [← a.1]; exact h1
  exact ⟨_,List.getElem?_eq_getElem h2,a.2 i x _ e (List.getElem?_eq_getElem h2)⟩
theorem LR.set {xs : List V} {vs : List Value} (a : LR I xs vs) {i : Nat} {x : V} {v : Value} (b : VR I x v) : LR I (xs.set i x) (vs.set i v) := by
  refine ⟨by simp [a.1],fun j y u p q => ?_⟩
  rw [List.getElem?_set] at p q
  by_cases hj : i = j
  · subst hj
    simp only [if_true] at p q
    split at p <;> split at q <;> simp_all
  · rw [if_neg hj] at p q
    exact a.2 j y u p q
theorem LR.drop {xs : List V} {vs : List Value} (a : LR I xs vs) (n : Nat) : LR I (xs.drop n) (vs.drop n) :=
  ⟨by simp [a.1],fun i x v p q => a.2 _ x v (by simpa using p) (by simpa using q)⟩
set_option tactic.hygienic true in
theorem LR.take {xs : List V} {vs : List Value} (a : LR I xs vs) (n : Nat) : LR I (xs.take n) (vs.take n) := by
  refine ⟨by simp [a.1],fun i x v p q => ?_⟩
  rw [List.getElem?_take] at p q
  split at p
  · rename_i hi; rw [if_pos hi] at q; exact a.2 i x v p q
  · exact nn p
theorem LR.replicate {x : V} {v : Value} (a : VR I x v) : ∀ n,LR I (List.replicate n x) (List.replicate n v)
  | 0 => .nil
  | n + 1 => by rw [List.replicate_succ,List.replicate_succ]; exact .cons a (LR.replicate a n)
theorem size_line {n : Nat} (h : n ≤ lenMax) : n ≤ sizeLine := by rw [sizeLine_eq]; unfold lenMax at h; (first | lia | omega)
theorem foldl_app {α : Type} (x : α) : ∀ (n : Nat) (a : Array α),List.foldl (fun p q => p ++ q) a (List.replicate n #[x]) = a ++ (List.replicate n x).toArray
  | 0,a => by simp
  | n + 1,a => by
    rw [List.replicate_succ,List.foldl_cons,foldl_app x n,List.replicate_succ]
    apply Array.ext'; simp
theorem addL_sound (C : ConOk G P h₀) (R : Rel G h₀ I h s) {x y r : V} {x' y' : Value} {h' : H} (hx : VR I x x') (hy : VR I y y') (e : addL P.C x y h = some (r,h'))
    {Q : Value → Shared → Prop} (hq : ∀ v' s',Pv G h₀ I s h' r v' s' → Q v' s') : wpAny (model prog w) A (binaryOp .Add x' y') Q E s := by
  obtain ⟨xs,e1,e⟩ := bL_inv e
  obtain ⟨ys,e2,e⟩ := bL_inv e
  obtain ⟨hlen,e⟩ := if_inv e
  obtain ⟨l,ob,rfl,g1,vs,n,rfl,l1⟩ := obj_sound C R hx e1
  obtain ⟨b,ob2,rfl,g2,ws,n2,rfl,l2⟩ := obj_sound C R hy e2
  cases e
  have hsz : vs.length + ws.length ≤ sizeLine := size_line (by rw [← l1.1,← l2.1]; exact hlen)
  refine concat_meets ⟨_,g1,rfl⟩ ⟨_,g2,rfl⟩ noFill_list_add seq_list_add PySem.F.slot_list_add PySem.F.entry_list_add (PySem.F.args_list_add_2 _ _) (list_addW l b vs.toArray ws.toArray n n2 _ _ _ _ (by simpa using hsz)) ⟨g1,g2,?_⟩
  rw [show vs.toArray ++ ws.toArray = (vs ++ ws).toArray by simp]
  exact hq _ _ (pv_new R rfl ⟨_,_,rfl,l1.append l2⟩)
theorem mulL_sound (C : ConOk G P h₀) (R : Rel G h₀ I h s) {x y r : V} {x' y' : Value} {h' : H} (hx : VR I x x') (hy : VR I y y') (e : mulL P.C x y h = some (r,h'))
    {Q : Value → Shared → Prop} (hq : ∀ v' s',Pv G h₀ I s h' r v' s' → Q v' s') : wpAny (model prog w) A (binaryOp .Mult x' y') Q E s := by
  obtain ⟨xs,e1,e⟩ := bL_inv e
  obtain ⟨k,rfl,e⟩ := bI_inv e
  obtain ⟨hc,e⟩ := if_inv e
  obtain ⟨l,ob,rfl,g1,vs,n,rfl,l1⟩ := obj_sound C R hx e1
  obtain ⟨u,rfl⟩ := hy
  cases e
  simp only [Bool.and_eq_true,decide_eq_true_eq,beq_iff_eq] at hc
  obtain ⟨⟨hlen,hone⟩,hk0⟩ := hc
  rw [hone,Nat.one_mul] at hlen
  obtain ⟨x0,rfl⟩ := List.length_eq_one_iff.mp hone
  obtain ⟨v0,rfl⟩ := List.length_eq_one_iff.mp (l1.1.symm.trans hone)
  have hk : k.toNat ≤ 1048576 := hlen
  have hz : Builtin.List.listTooLong (1 * k.toNat) = false := by
    unfold Builtin.List.listTooLong; rw [sizeLine_eq]; exact decide_eq_false (by (first | lia | omega))
  refine wpAny_binaryOp_repeat_ref (T := "list") (U := "int") (by decide) ⟨_,g1,rfl⟩ (fun s' => typeIs_int s' k u) noFill_list_mul PySem.F.fills_int_mul PySem.F.slot_int_rmul repeat_list PySem.F.slot_int_index.lookup ?_
  refine call_meets PySem.F.slot_int_rmul (typeIs_int s k u) PySem.F.entry_int_rmul (PySem.F.args_int_rmul_2 _ _) (int___rmul___int_list k u l [v0].toArray n) ⟨g1,rfl,⟨_,g1,rfl⟩,?_⟩
  refine call_meets PySem.F.slot_list_mul ⟨_,g1,rfl⟩ PySem.F.entry_list_mul (PySem.F.args_list_mul_2 _ _)
    (AutoListH.list___mul___list_int_3 l [v0].toArray n k u (by simp [Builtin.List.listFitsIndex]; (first | lia | omega)) (by simp; (first | lia | omega)) (by simp only [List.size_toArray,List.length_cons,List.length_nil]; rw [show 0 + 1 = 1 from rfl,hz]; decide)) ⟨g1,?_⟩
  refine hq _ _ (pv_new R rfl ?_)
  rw [if_neg (by simp),show [v0].toArray = #[v0] from rfl,foldl_app,Array.empty_append]
  exact ⟨_,_,rfl,LR.replicate (l1.2 0 _ _ rfl rfl) _⟩
theorem binO_sound (C : ConOk G P h₀) (R : Rel G h₀ I h s) {op : Operator} {x y r : V} {x' y' : Value} {h' : H} (hx : VR I x x') (hy : VR I y y') (e : binO P.C op x y h = some (r,h'))
    {Q : Value → Shared → Prop} (hq : ∀ v' s',Pv G h₀ I s h' r v' s' → Q v' s') : wpAny (model prog w) A (binaryOp op x' y') Q E s := by
  cases op with
  | Add => exact addL_sound C R hx hy e hq
  | Mult => exact mulL_sound C R hx hy e hq
  | _ => exact nn e
theorem binV_sound (C : ConOk G P h₀) (R : Rel G h₀ I h s) {op : Operator} {x y r : V} {x' y' : Value} {h' : H} (hx : VR I x x') (hy : VR I y y') (e : binV P.C op x y h = some (r,h'))
    {Q : Value → Shared → Prop} (hq : ∀ v' s',Pv G h₀ I s h' r v' s' → Q v' s') : wpAny (model prog w) A (binaryOp op x' y') Q E s := by
  cases x with
  | int a => cases y with
    | int b =>
      obtain ⟨t,rfl⟩ := hx
      obtain ⟨u,rfl⟩ := hy
      obtain ⟨z,e1,e⟩ := Option.map_eq_some_iff.mp (show Option.map _ _ = _ from e)
      cases e
      exact binInt_sound e1 fun tk tk' => hq _ _ (pv_same R ⟨tk,rfl⟩)
    | _ => cases e
  | _ => exact binO_sound C R hx hy e hq
end
section
variable {prog : Program} {w : World} {A : Around} {E : Value → Shared → Prop} {G : Gp} {P : Par} {h₀ : Heap} {I : List Addr} {h : H} {s : Shared}
theorem iadd_lists {l b : Addr} {its its2 : Array Value} {n n2 : Nat} {Q : Value → Shared → Prop} (g1 : s.heap.get? l = some { cls := .type "list",data := .seq its n }) (g2 : s.heap.get? b = some { cls := .type "list",data := .seq its2 n2 })
    (hsz : its.size + its2.size ≤ sizeLine)
    (hq : ∀ h' n',(∀ c,c ≠ l → h'.get? c = s.heap.get? c) → h'.get? l = some { cls := .type "list",data := .seq (its ++ its2) n' } → Q (.ref l) { s with heap := h' }) :
    wpAny (model prog w) A (inplaceOp .Add (.ref l) (.ref b)) Q E s := by
  unfold inplaceOp
  refine wpAny_holding ?_
  have hseq : seqSlot? (.type "list") (dunderI "add") = pure (some (.builtin "list.__iadd__")) := PySem.seqSlot_of PySem.F.slot_list_iadd.lookup (by decide +kernel)
  have hfi : fillsInplaceSlot (.type "list") "add" (Operator.Add == .Add) = pure false := by
    show (typeLookup (.type "list") (dunderI "add") >>= fun fi => pure (fi.isSome && !isSeqSlot fi)) = pure false
    rw [PySem.F.slot_list_iadd.lookup,pure_bind,show isSeqSlot (some (Value.builtin "list.__iadd__")) = true by decide +kernel]
    rfl
  refine wpAny_bind (wpAny_typeOf ⟨_,g1,rfl⟩ (wpAny_bind (wpAny_of_eq hfi ?_)))
  simp only [Bool.false_eq_true,if_false]
  refine wpAny_bind (wpAny_binaryOp1_none (nm := "add") ⟨_,g1,rfl⟩ ⟨_,g2,rfl⟩ noFill_list_add ?_)
  refine wpAny_bind (wpAny_of_eq hseq ?_)
  refine wpAny_bind (wpAny_rule ?_)
  refine call_meets PySem.F.slot_list_iadd ⟨_,g1,rfl⟩ PySem.F.entry_list_iadd (PySem.F.args_list_iadd_2 _ _)
    (AutoSeq1.list___iadd___list_list_0 l its n b its2 n2 (extend_door hsz) (by (first | lia | omega)) (by (first | lia | omega))) ⟨g1,g2,?_⟩
  refine hq _ (if (its ++ its2).size == its.size then n else n + 1) (Heap.SameBut.update ..).2 ?_
  rw [Heap.get?_update_self _ g1 (by rw [mapSeq_app]; rfl),mapSeq_app]
theorem augL_sound (C : ConOk G P h₀) (R : Rel G h₀ I h s) {a : Nat} {y r : V} {x' y' : Value} {h' : H} (hx : VR I (.ref a) x') (hy : VR I y y') (e : augL P.C a y h = some (r,h'))
    {Q : Value → Shared → Prop} (hq : ∀ v' s',Pv G h₀ I s h' r v' s' → Q v' s') : wpAny (model prog w) A (inplaceOp .Add x' y') Q E s := by
  obtain ⟨xs,e1,e⟩ := bL_inv e
  obtain ⟨ys,e2,e⟩ := bL_inv e
  obtain ⟨hc,e⟩ := if_inv e
  obtain ⟨b,rb,rfl⟩ := hx
  obtain ⟨b',ob,q1,g1,vs,n,rfl,l1⟩ := R.get e1
  rw [rb] at q1; cases q1
  obtain ⟨c,ob2,rfl,g2,ws,n2,rfl,l2⟩ := obj_sound C R hy e2
  have hc := of_decide_eq_true (Bool.and_eq_true_iff.mp hc).1
  cases e
  refine iadd_lists g1 g2 (by simp only [List.size_toArray]; rw [← l1.1,← l2.1]; exact size_line hc) fun h' n' k g => hq _ _ ?_
  exact pv_set (tk := s.toks) R (v := .ref a) (r := .ref b) ⟨b,rb,rfl⟩ rb k g (o := .lst (xs ++ ys)) ⟨vs ++ ws,n',by rw [List.append_toArray],l1.append l2⟩
theorem augV_sound (C : ConOk G P h₀) (R : Rel G h₀ I h s) {op : Operator} {x y r : V} {x' y' : Value} {h' : H} (hx : VR I x x') (hy : VR I y y') (e : augV P.C op x y h = some (r,h'))
    {Q : Value → Shared → Prop} (hq : ∀ v' s',Pv G h₀ I s h' r v' s' → Q v' s') : wpAny (model prog w) A (inplaceOp op x' y') Q E s := by
  cases x with
  | int a => cases y with
    | int b =>
      obtain ⟨t,rfl⟩ := hx
      obtain ⟨u,rfl⟩ := hy
      obtain ⟨z,e1,e⟩ := Option.map_eq_some_iff.mp (show Option.map _ _ = _ from e)
      cases e
      exact augInt_sound e1 fun tk tk' => hq _ _ (pv_same R ⟨tk,rfl⟩)
    | _ => cases e
  | ref a => cases op with
    | Add => exact augL_sound C R hx hy e hq
    | _ => cases e
  | _ => cases e
theorem any_contains (l : List Int) (k : Int) : l.any (· == k) = l.contains k := by
  rw [Bool.eq_iff_iff]; simp
theorem cmpI_sound {op : CmpOp} {a b : Int} {t u : Tok} {r : Bool} (e : cmpI op a b = some r) {Q : Value → Shared → Prop} (hq : Q (.bool r) s) : wpAny (model prog w) A (compareOp op (.int a t) (.int b u)) Q E s := by
  cases op with
  | Eq => cases e; exact eq_int hq
  | NotEq => cases e; exact ne_int hq
  | Lt => cases e; exact lt_int hq
  | LtE => cases e; exact le_int hq
  | Gt => cases e; exact gt_int hq
  | GtE => cases e; exact ge_int hq
  | _ => exact nn e
theorem hasV_sound (C : ConOk G P h₀) (R : Rel G h₀ I h s) {a : Int} {t : Tok} {y : V} {r : Bool} {y' : Value} (hy : VR I y y') (e : hasV P.C h a y = some r)
    {Q : Value → Shared → Prop} (hq : Q (.bool r) s) : wpAny (model prog w) A (compareOp .In (.int a t) y') Q E s := by
  obtain ⟨xs,e1 | e1,e⟩ := bS_inv e
  all_goals
    obtain ⟨l,ob,rfl,g1,vs,n,e2,l1⟩ := obj_sound C R hy e1
    obtain ⟨ns,e3,rfl⟩ := Option.map_eq_some_iff.mp e
  · exact in_list_ints (isList_of g1 e2) (ints_sound l1 e3) (by rw [any_contains]; exact hq)
  · exact in_tuple_ints (isTup_of g1 e2) (ints_sound l1 e3) (by rw [any_contains]; exact hq)
theorem hasNot_sound (C : ConOk G P h₀) (R : Rel G h₀ I h s) {a : Int} {t : Tok} {y : V} {r : Bool} {y' : Value} (hy : VR I y y') (e : hasNot P.C h a y = some r)
    {Q : Value → Shared → Prop} (hq : Q (.bool r) s) : wpAny (model prog w) A (compareOp .NotIn (.int a t) y') Q E s := by
  obtain ⟨xs,e1 | e1,e⟩ := bS_inv e
  all_goals
    obtain ⟨l,ob,rfl,g1,vs,n,e2,l1⟩ := obj_sound C R hy e1
    obtain ⟨ns,e3,rfl⟩ := Option.map_eq_some_iff.mp e
  · exact notin_list_ints (isList_of g1 e2) (ints_sound l1 e3) (by rw [any_contains]; exact hq)
  · exact notin_tuple_ints (isTup_of g1 e2) (ints_sound l1 e3) (by rw [any_contains]; exact hq)
theorem neT_sound (C : ConOk G P h₀) (R : Rel G h₀ I h s) (hu : A.units + 64 < cLine) {x y : V} {r : Bool} {x' y' : Value} (hx : VR I x x') (hy : VR I y y') (e : neT P.C h x y = some r)
    {Q : Value → Shared → Prop} (hq : Q (.bool r) s) : wpAny (model prog w) A (compareOp .NotEq x' y') Q E s := by
  obtain ⟨xs,e1,e⟩ := bT_inv e
  obtain ⟨ys,e2,e⟩ := bT_inv e
  obtain ⟨ns,i1,e⟩ := bq_inv e
  obtain ⟨ms,i2,e⟩ := bq_inv e
  obtain ⟨l,ob,rfl,g1,vs,n,q1,l1⟩ := obj_sound C R hx e1
  obtain ⟨b,ob2,rfl,g2,ws,n2,q2,l2⟩ := obj_sound C R hy e2
  cases e
  refine ne_dataH_same (reads_newDataT (isTup_of g1 q1) (ke_carried (ints_sound l1 i1))) (reads_newDataT (isTup_of g2 q2) (ke_carried (ints_sound l2 i2))) ?_ ?_ hu
    (SeqAt.noMix_of_shape (.tuples .int) rfl _ _ (tuples_map_has fun _ => rfl) (tuples_map_has fun _ => rfl)) ?_
  · simp [SeqAt.shaped,PyData.canLay0,PyData.depth,ke_canLayAll0,ke_depthAll]
  · simp [SeqAt.shaped,PyData.canLay0,PyData.depth,ke_canLayAll0,ke_depthAll]
  · simp only [PySem.Spec.same,ke_sameAll]
    rw [show (!decide (ns = ms)) = (ns != ms) by by_cases q : ns = ms <;> simp [q]]
    exact hq
theorem cmp_int (C : ConOk G P h₀) (R : Rel G h₀ I h s) {op : CmpOp} {a : Int} {y : V} {r : Bool} {x' y' : Value} (hx : VR I (.int a) x') (hy : VR I y y') (e : (bI y fun b => cmpI op a b) = some r)
    {Q : Value → Shared → Prop} (hq : Q (.bool r) s) : wpAny (model prog w) A (compareOp op x' y') Q E s := by
  obtain ⟨b,rfl,e⟩ := bI_inv e
  obtain ⟨t,rfl⟩ := hx; obtain ⟨u,rfl⟩ := hy
  exact cmpI_sound e hq
theorem cmpV_sound (C : ConOk G P h₀) (R : Rel G h₀ I h s) (hu : A.units + 64 < cLine) {op : CmpOp} {x y : V} {r : Bool} {x' y' : Value} (hx : VR I x x') (hy : VR I y y') (e : cmpV P.C h op x y = some r)
    {Q : Value → Shared → Prop} (hq : Q (.bool r) s) : wpAny (model prog w) A (compareOp op x' y') Q E s := by
  cases op with
  | In =>
    obtain ⟨a,rfl,e⟩ := bI_inv (show bI _ _ = _ from e)
    obtain ⟨t,rfl⟩ := hx
    exact hasV_sound C R hy e hq
  | NotIn =>
    obtain ⟨a,rfl,e⟩ := bI_inv (show bI _ _ = _ from e)
    obtain ⟨t,rfl⟩ := hx
    exact hasNot_sound C R hy e hq
  | NotEq => cases x with
    | int a => exact cmp_int C R hx hy e hq
    | _ => exact neT_sound C R hu hx hy e hq
  | _ => cases x with
    | int a => exact cmp_int C R hx hy e hq
    | _ => exact nn e
theorem getSub_sound (C : ConOk G P h₀) (R : Rel G h₀ I h s) {x y r : V} {x' y' : Value} (hx : VR I x x') (hy : VR I y y') (e : getSub P.C h x y = some r)
    {Q : Value → Shared → Prop} (hq : ∀ v',VR I r v' → Q v' s) : wpAny (model prog w) A (getItem x' y') Q E s := by
  obtain ⟨xs,e1,e⟩ := bS_inv e
  obtain ⟨k,rfl,e⟩ := bI_inv e
  obtain ⟨h0,e⟩ := if_inv e
  have hk1 := of_decide_eq_true (Bool.and_eq_true_iff.mp h0).2
  have h0 := of_decide_eq_true (Bool.and_eq_true_iff.mp h0).1
  obtain ⟨t,rfl⟩ := hy
  have hk : k.toNat < xs.length := (List.getElem?_eq_some_iff.mp e).1
  rcases e1 with e1 | e1
  · obtain ⟨l,ob,rfl,g1,vs,n,q1,l1⟩ := obj_sound C R hx e1
    obtain ⟨v,ev,hv⟩ := l1.at e
    exact wpAny_getItem_list (isList_of g1 q1) h0 (by (first | lia | omega)) (by rw [List.getElem?_toArray]; exact ev) (hq _ hv)
  · obtain ⟨l,ob,rfl,g1,vs,n,q1,l1⟩ := obj_sound C R hx e1
    obtain ⟨v,ev,hv⟩ := l1.at e
    refine PyProof.Rows.getItem_tuple (isTup_of g1 q1) (by (first | lia | omega)) (by (first | lia | omega)) (j := k.toNat) ?_ (by rw [List.getElem?_toArray]; exact ev) (hq _ hv)
    rw [List.size_toArray,← l1.1]
    unfold seqIndex?
    simp only [if_neg (show ¬ k < 0 by (first | lia | omega))]
    rw [if_pos (by simp; (first | lia | omega))]
theorem setSub_sound (R : Rel G h₀ I h s) {x y z : V} {x' y' z' : Value} {h' : H} (hx : VR I x x') (hy : VR I y y') (hz : VR I z z') (e : setSub h x y z = some h')
    {Q : Unit → Shared → Prop} (hq : ∀ s',Pv G h₀ I s h' .none .none s' → Q () s') : wpAny (model prog w) A (setItem x' y' z') Q E s := by
  obtain ⟨a,rfl,e⟩ := bA_inv e
  obtain ⟨k,rfl,e⟩ := bI_inv e
  obtain ⟨xs,e1,e⟩ := bL_inv e
  obtain ⟨hc,e⟩ := if_inv e
  obtain ⟨b,rb,rfl⟩ := hx
  obtain ⟨t,rfl⟩ := hy
  obtain ⟨b',ob,q1,g1,vs,n,rfl,l1⟩ := R.get e1
  rw [rb] at q1; cases q1
  simp only [Bool.and_eq_true,decide_eq_true_eq] at hc
  obtain ⟨⟨h0,hk1⟩,hk⟩ := hc
  cases e
  refine ki_setAt g1 h0 (by (first | lia | omega)) (by rw [List.size_toArray,← l1.1]; (first | lia | omega)) (hq _ ?_)
  have g := PySem.IsL.update (n := n) (items := vs.toArray) g1 (·.setIfInBounds k.toNat z')
  rw [List.setIfInBounds_toArray] at g
  exact pv_set (tk := s.toks) R (v := .none) (r := .none) rfl rb (Heap.SameBut.update ..).2 g ⟨vs.set k.toNat z',_,rfl,l1.set hz⟩
set_option tactic.hygienic true in
theorem weight_le : ∀ l : List Int,(∀ i ∈ l,i.natAbs ≤ 100000) → PyData.weightAll (l.map .int) ≤ 18 * l.length
  | [],_ => by simp [PyData.weightAll]
  | i :: r,hh => by
    have ih := weight_le r fun j hj => hh j (List.mem_cons_of_mem _ hj)
    have h1 := hh i List.mem_cons_self
    have h2 : PyData.weight (.int i) ≤ 17 := by
      simp only [PyData.weight]
      split
      · (first | lia | omega)
      · rename_i hz
        have hz' : i.natAbs ≠ 0 := by intro q; apply hz; simp; (first | lia | omega)
        have := (Nat.log2_lt hz').mpr (show i.natAbs < 2 ^ 17 by (first | lia | omega))
        (first | lia | omega)
    simp only [List.map_cons,PyData.weightAll,List.length_cons]
    (first | lia | omega)
theorem layable_ints {l : List Int} (h1 : ∀ i ∈ l,i.natAbs ≤ 100000) (h2 : l.length ≤ 1000) : PyData.layable0 (.list (l.map .int)) = true := by
  have := weight_le l h1
  unfold PyData.layable0
  simp only [PyData.canLay0,ke_canLayAll0,PyData.depth,ke_depthAll,PyData.weight,Bool.true_and,Bool.and_eq_true,decide_eq_true_eq]
  exact ⟨by (first | lia | omega),decide_eq_true (by (first | lia | omega))⟩
theorem itms : ∀ {vs : List Value} {ns : List Int},IntsAre vs ns → ∃ xs : Array (Int × Tok),vs.toArray = intItems xs ∧ xs.toList.map (·.1) = ns
  | _,_,.nil => ⟨#[],by simp [intItems],rfl⟩
  | _,_,.cons i t r => by
    obtain ⟨xs,e1,e2⟩ := itms r
    refine ⟨((i,t) :: xs.toList).toArray,?_,by simp [e2]⟩
    have e3 : _ = (intItems xs).toList := congrArg Array.toList e1
    simp only [intItems] at e3 ⊢
    apply Array.toList_inj.mp
    simp only [Array.toList_map] at e3 ⊢
    simp [← e3]
theorem sum_pre (xs : Array (Int × Tok)) : preSum (numAt xs) xs.size = (xs.toList.map (·.1)).sum := by
  rw [preSum_eq,List.take_of_length_le (by simp)]
noncomputable def biFn : Nat → Value
  | 0 => .builtin "len"
  | 1 => .builtin "max"
  | 2 => .builtin "min"
  | 3 => .builtin "sum"
  | _ => .type "list"
noncomputable def methFn : Nat → Str
  | 0 => "list.append"
  | 1 => "list.index"
  | _ => "list.count"
theorem one_of {v : V} {ws : List Value} (hv : LR I [v] ws) : ∃ u,ws = [u] ∧ VR I v u := by
  obtain ⟨u,rfl⟩ := List.length_eq_one_iff.mp hv.1.symm
  exact ⟨u,rfl,hv.2 0 _ _ rfl rfl⟩
theorem two_of {v v2 : V} {ws : List Value} (hv : LR I [v,v2] ws) : ∃ u u2,ws = [u,u2] ∧ VR I v u ∧ VR I v2 u2 := by
  match ws,hv with
  | [u,u2],hv => exact ⟨u,u2,rfl,hv.2 0 _ _ rfl rfl,hv.2 1 _ _ rfl rfl⟩
  | [],hv => cases hv.1
  | [_],hv => cases hv.1
  | _ :: _ :: _ :: _,hv => have := hv.1; simp at this
theorem len_sound (C : ConOk G P h₀) (R : Rel G h₀ I h s) {vs : List V} {ws : List Value} {r : V} {h' : H} (hv : LR I vs ws) (e : biV P.C 0 vs h = some (r,h'))
    {Q : Value → Shared → Prop} (hq : ∀ v' s',Pv G h₀ I s h' r v' s' → Q v' s') : wpAny (model prog w) A (call (.builtin "len") ws) Q E s := by
  obtain ⟨v,rfl,e⟩ := b1_inv e
  obtain ⟨xs,e1,e⟩ := bL_inv e
  obtain ⟨hc,e⟩ := if_inv e
  obtain ⟨u,rfl,hvu⟩ := one_of hv
  obtain ⟨l,ob,rfl,g1,us,n,q1,l1⟩ := obj_sound C R hvu e1
  cases e
  have hc' : xs.length ≤ 1048576 := hc
  refine call_len_list (isList_of g1 q1) (by rw [List.size_toArray,← l1.1]; (first | lia | omega)) (hq _ _ ?_)
  rw [List.size_toArray,← l1.1]
  exact pv_same R ⟨_,rfl⟩
theorem max_sound (R : Rel G h₀ I h s) (hh : A.handled = none) {vs : List V} {ws : List Value} {r : V} {h' : H} (hv : LR I vs ws) (e : biV P.C 1 vs h = some (r,h'))
    {Q : Value → Shared → Prop} (hq : ∀ v' s',Pv G h₀ I s h' r v' s' → Q v' s') : wpAny (model prog w) A (call (.builtin "max") ws) Q E s := by
  obtain ⟨x,y,rfl,e⟩ := b2_inv e
  obtain ⟨a,rfl,e⟩ := bI_inv e
  obtain ⟨b,rfl,e⟩ := bI_inv e
  cases e
  obtain ⟨u,u2,rfl,⟨t1,rfl⟩,⟨t2,rfl⟩⟩ := two_of hv
  refine max_two_ints hh fun h' tk k => hq _ _ (pv_keeps R ?_ k)
  split <;> exact ⟨_,rfl⟩
theorem min_sound (R : Rel G h₀ I h s) (hh : A.handled = none) {vs : List V} {ws : List Value} {r : V} {h' : H} (hv : LR I vs ws) (e : biV P.C 2 vs h = some (r,h'))
    {Q : Value → Shared → Prop} (hq : ∀ v' s',Pv G h₀ I s h' r v' s' → Q v' s') : wpAny (model prog w) A (call (.builtin "min") ws) Q E s := by
  obtain ⟨x,y,rfl,e⟩ := b2_inv e
  obtain ⟨a,rfl,e⟩ := bI_inv e
  obtain ⟨b,rfl,e⟩ := bI_inv e
  cases e
  obtain ⟨u,u2,rfl,⟨t1,rfl⟩,⟨t2,rfl⟩⟩ := two_of hv
  refine min_two_ints hh fun h' tk k => hq _ _ (pv_keeps R ?_ k)
  split <;> exact ⟨_,rfl⟩
theorem sum_sound (C : ConOk G P h₀) (R : Rel G h₀ I h s) (hh : A.handled = none) {vs : List V} {ws : List Value} {r : V} {h' : H} (hv : LR I vs ws) (e : biV P.C 3 vs h = some (r,h'))
    {Q : Value → Shared → Prop} (hq : ∀ v' s',Pv G h₀ I s h' r v' s' → Q v' s') : wpAny (model prog w) A (call (.builtin "sum") ws) Q E s := by
  obtain ⟨v,rfl,e⟩ := b1_inv e
  obtain ⟨xs,e1,e⟩ := bL_inv e
  obtain ⟨ns,e2,e⟩ := bq_inv e
  obtain ⟨u,rfl,hvu⟩ := one_of hv
  obtain ⟨l,ob,rfl,g1,us,n,q1,l1⟩ := obj_sound C R hvu e1
  cases e
  obtain ⟨ys,y1,y2⟩ := itms (ints_sound l1 e2)
  refine sum_intListG hh (by rw [← y1]; exact isList_of g1 q1) fun h' tk t' k => hq _ _ ?_
  rw [sum_pre,y2]
  exact pv_keeps R ⟨_,rfl⟩ k
theorem append_sound (R : Rel G h₀ I h s) {x y r : V} {x' y' : Value} {h' : H} (hx : VR I x x') (hy : VR I y y') (e : methV P.C 0 x y h = some (r,h'))
    {Q : Value → Shared → Prop} (hq : ∀ v' s',Pv G h₀ I s h' r v' s' → Q v' s') : wpAny (model prog w) A (call (.builtin "list.append") [x',y']) Q E s := by
  obtain ⟨a,rfl,e⟩ := bA_inv e
  obtain ⟨xs,e1,e⟩ := bL_inv e
  obtain ⟨hc,e⟩ := if_inv e
  obtain ⟨b,rb,rfl⟩ := hx
  obtain ⟨b',ob,q1,g1,vs,n,rfl,l1⟩ := R.get e1
  rw [rb] at q1; cases q1
  cases e
  refine append_at g1 (fun h' hs hg => hq _ _ ?_) (size_line (by rw [List.size_toArray,← l1.1]; exact Nat.le_of_lt hc))
  exact pv_set (tk := s.toks) R (v := .none) (r := .none) rfl rb hs.2 hg ⟨vs ++ [y'],n + 1,by simp,l1.append (.one hy)⟩
theorem index_sound (C : ConOk G P h₀) (R : Rel G h₀ I h s) {x y r : V} {x' y' : Value} {h' : H} (hx : VR I x x') (hy : VR I y y') (e : methV P.C 1 x y h = some (r,h'))
    {Q : Value → Shared → Prop} (hq : ∀ v' s',Pv G h₀ I s h' r v' s' → Q v' s') : wpAny (model prog w) A (call (.builtin "list.index") [x',y']) Q E s := by
  obtain ⟨xs,e1,e⟩ := bL_inv e
  obtain ⟨j,rfl,e⟩ := bI_inv e
  obtain ⟨ns,e2,e⟩ := bq_inv e
  obtain ⟨hc,e⟩ := if_inv e
  obtain ⟨l,ob,rfl,g1,vs,n,q1,l1⟩ := obj_sound C R hx e1
  obtain ⟨t,rfl⟩ := hy
  cases e
  simp only [Bool.and_eq_true,decide_eq_true_eq,List.all_eq_true,List.contains_iff_mem] at hc
  exact index_list_ints (isList_of g1 q1) (ints_sound l1 e2) (layable_ints hc.1.2 hc.2) hc.1.1 (hq _ _ (pv_same R ⟨_,rfl⟩))
theorem count_sound (C : ConOk G P h₀) (R : Rel G h₀ I h s) {x y r : V} {x' y' : Value} {h' : H} (hx : VR I x x') (hy : VR I y y') (e : methV P.C 2 x y h = some (r,h'))
    {Q : Value → Shared → Prop} (hq : ∀ v' s',Pv G h₀ I s h' r v' s' → Q v' s') : wpAny (model prog w) A (call (.builtin "list.count") [x',y']) Q E s := by
  obtain ⟨xs,e1,e⟩ := bL_inv e
  obtain ⟨j,rfl,e⟩ := bI_inv e
  obtain ⟨ns,e2,e⟩ := bq_inv e
  obtain ⟨l,ob,rfl,g1,vs,n,q1,l1⟩ := obj_sound C R hx e1
  obtain ⟨t,rfl⟩ := hy
  cases e
  exact count_list_ints (isList_of g1 q1) (ints_sound l1 e2) (hq _ _ (pv_same R ⟨_,rfl⟩))
end
theorem natsEq_iff : ∀ a b : List Nat,natsEq a b = true ↔ a = b
  | _,_ => decide_eq_true_iff
theorem sEq_iff (a b : Str) : sEq a b = true ↔ a = b := by
  obtain ⟨⟨a⟩⟩ := a
  obtain ⟨⟨b⟩⟩ := b
  rw [sEq,natsEq_iff]; simp
theorem sEq_beq (a b : Str) : sEq a b = (a == b) := by
  rw [Bool.eq_iff_iff,sEq_iff,beq_iff_eq]
theorem kindIn_eq (x : Str) : ∀ l : List (Str × NameKind),kindIn x l = l.lookup x
  | [] => rfl
  | (y,k) :: r => by
    show (if sEq x y = true then some k else kindIn x r) = _
    rw [List.lookup_cons,sEq_beq,kindIn_eq x r]
    cases x == y <;> rfl
theorem idxOf_get (x : Str) : ∀ {l : List Str} {i : Nat},idxOf? x l = some i → l[i]? = some x
  | [],_,e => by exact nn e
  | y :: r,i,e => by
    have e : (if sEq x y = true then some 0 else (idxOf? x r).map Nat.succ) = some i := e
    by_cases q : sEq x y = true
    · rw [if_pos q] at e; cases e; rw [(sEq_iff _ _).mp q]; rfl
    · rw [if_neg q] at e
      obtain ⟨j,e',rfl⟩ := Option.map_eq_some_iff.mp e
      exact List.getElem?_cons_succ.trans (idxOf_get x e')
theorem idxOf_inj {x y : Str} {l : List Str} {i : Nat} (a : idxOf? x l = some i) (b : idxOf? y l = some i) : x = y := by
  have h1 := idxOf_get x a
  rw [idxOf_get y b] at h1
  exact (Option.some.inj h1).symm
noncomputable def Own (env : Env) (b : Addr) : Prop := b = env.locals ∨ ∃ n,env.cells.lookup n = some b
noncomputable def Stor (env : Env) (x : Str) (b : Addr) : Prop := b = env.locals ∨ env.cells.lookup x = some b
theorem Stor.own {env : Env} {x : Str} {b : Addr} (h : Stor env x b) : Own env b := h.elim .inl fun q => .inr ⟨x,q⟩
structure Wd where
  gl : Addr
  bl : Addr
  mg : Str → Option Value
  mb : Str → Option Value
  fa : Nat → Addr
structure FrameR (W : Wd) (Γ : Cx) (env : Env) (σ : Sig) (I : List Addr) (h₀ : Heap) (s : Shared) : Prop where
  kind : env.scope.kind = .function
  names : env.scope.names = Γ.names
  gl : env.globals = W.gl
  bl : env.builtins = W.bl
  loc : ∃ m,s.heap.Ns env.locals m ∧ ∀ x i v,kindIn x Γ.names = some .local → idxOf? x Γ.ns = some i → σ[i]? = some (some v) → ∃ v',m x = some v' ∧ VR I v v'
  cel : ∀ x,kindIn x Γ.names = some .cell → ∃ c v₀,env.cells.lookup x = some c ∧ s.heap.IsCell c v₀ ∧ ∀ i v,idxOf? x Γ.ns = some i → σ[i]? = some (some v) → ∃ v',v₀ = some v' ∧ VR I v v'
  apart : ∀ n n' c,env.cells.lookup n = some c → env.cells.lookup n' = some c → n = n'
  off : ∀ n c,env.cells.lookup n = some c → c ≠ env.locals ∧ (s.heap.get? c).isSome = true
  own : ∀ b,Own env b → b ∉ I ∧ h₀.get? b = none
section
variable {prog : Program} {w : World} {A : Around} {E : Value → Shared → Prop} {G : Gp} {P : Par} {W : Wd} {h₀ : Heap} {I I' : List Addr} {h h' : H} {s s' : Shared} {Γ : Cx} {env : Env} {σ : Sig}
theorem FrameR.kindOf (f : FrameR W Γ env σ I h₀ s) (x : Str) : env.kindOf x = kindIn x Γ.names := by
  unfold Env.kindOf; rw [f.names,kindIn_eq]
theorem FrameR.alive (f : FrameR W Γ env σ I h₀ s) {b : Addr} (hb : Own env b) : (s.heap.get? b).isSome = true := by
  rcases hb with rfl | ⟨n,hn⟩
  · obtain ⟨m,⟨o,_,_,e,_⟩,_⟩ := f.loc; rw [e]; rfl
  · exact (f.off n b hn).2
theorem FrameR.ext {Q : Addr → Prop} (f : FrameR W Γ env σ I h₀ s) (x : Ext Q I s I' s') (hq : ∀ b,Own env b → ¬ Q b) : FrameR W Γ env σ I' h₀ s' := by
  have keep : ∀ b,Own env b → ∀ o,s.heap.get? b = some o → s'.heap.get? b = some o := fun b hb o e => x.keep b o (f.own b hb).1 (hq b hb) e
  refine ⟨f.kind,f.names,f.gl,f.bl,?_,fun y hy => ?_,f.apart,fun n c hc => ⟨(f.off n c hc).1,?_⟩,fun b hb => ⟨?_,(f.own b hb).2⟩⟩
  · obtain ⟨m,hm,hv⟩ := f.loc
    exact ⟨m,hm.at fun o e => keep _ (.inl rfl) o e,fun y i v a b c => let ⟨v',p,q⟩ := hv y i v a b c; ⟨v',p,q.mono x.pre⟩⟩
  · obtain ⟨c,v₀,a,⟨o,e,d⟩,hv⟩ := f.cel y hy
    exact ⟨c,v₀,a,⟨o,keep c (.inr ⟨y,a⟩) o e,d⟩,fun i v p q => let ⟨v',r,t⟩ := hv i v p q; ⟨v',r,t.mono x.pre⟩⟩
  · obtain ⟨o,e⟩ := Option.isSome_iff_exists.mp (f.off n c hc).2
    rw [keep c (.inr ⟨n,hc⟩) o e]; rfl
  · obtain ⟨o,e⟩ := Option.isSome_iff_exists.mp (f.alive hb)
    exact x.out (f.own b hb).1 e
theorem FrameR.ext0 (f : FrameR W Γ env σ I h₀ s) (x : Ext NoP I s I' s') : FrameR W Γ env σ I' h₀ s' := f.ext x fun _ _ q => q
theorem FrameR.tok (f : FrameR W Γ env σ I h₀ s) (t : Nat) : FrameR W Γ env σ I h₀ { s with toks := t } := f.ext0 (Ext.refl.tok t)
theorem load_slot (f : FrameR W Γ env σ I h₀ s) {x : Str} {i : Nat} {v : V} (hs : slotOf Γ x = some i) (hv : σ[i]? = some (some v))
    {Q : Value → Shared → Prop} (hq : ∀ v',VR I v v' → Q v' s) : wpAny (model prog w) A (loadName env x) Q E s := by
  obtain ⟨hk | hk,hs⟩ := slot_inv hs
  · obtain ⟨m,hm,hl⟩ := f.loc
    obtain ⟨v',e,r⟩ := hl x i v hk hs hv
    exact wpAny_loadName_local f.kind ((f.kindOf x).trans hk) hm e (hq v' r)
  · obtain ⟨c,v₀,a,b,hl⟩ := f.cel x hk
    obtain ⟨v',rfl,r⟩ := hl i v hs hv
    exact wpAny_loadName_cell f.kind ((f.kindOf x).trans hk) a b (hq v' r)
theorem store_slot (R : Rel G h₀ I h s) (f : FrameR W Γ env σ I h₀ s) {x : Str} {i : Nat} {v : V} {v' : Value} (hs : slotOf Γ x = some i) (hv : VR I v v')
    {Q : Unit → Shared → Prop} (hq : ∀ s',Rel G h₀ I h s' → FrameR W Γ env (σ.set i (some v)) I h₀ s' → Ext (Stor env x) I s I s' → Q () s') : wpAny (model prog w) A (storeName env x v') Q E s := by
  have upd : ∀ (h' : Heap) (tk : Tok) (b : Addr),Stor env x b → (∀ c,c ≠ b → h'.get? c = s.heap.get? c) → (h'.get? b).isSome = true → Rel G h₀ I h { s with heap := h',toks := tk } ∧ Ext (Stor env x) I s I { s with heap := h',toks := tk } := by
    intro h' tk b hb hsame hlive
    have hbI := (f.own b hb.own).1
    have hb0 := (f.own b hb.own).2
    refine ⟨R.outside fun c o hc e => ?_,⟨⟨_,_,rfl⟩,List.prefix_refl _,fun _ q => .inl q,fun c o _ hc e => ?_,fun c _ e => ?_,fun _ q => .inl q⟩⟩
    · have : c ≠ b := by
        rintro rfl
        rcases hc with q | q
        · exact hbI q
        · rw [hb0] at q; cases q
      rw [hsame c this]; exact e
    · have : c ≠ b := by rintro rfl; exact hc hb
      exact (hsame c this).trans e
    · have : c ≠ b := by rintro rfl; rw [show h'.get? c = none from e] at hlive; cases hlive
      rw [← hsame c this]; exact e
  obtain ⟨hk | hk,hs⟩ := slot_inv hs
  · obtain ⟨m,hm,hl⟩ := f.loc
    refine wpAny_storeName_local ((f.kindOf x).trans hk) hm (fun h' hn hsb => ?_) (by rw [f.kind]; rfl)
    obtain ⟨R',X'⟩ := upd h' (s.toks + 1) env.locals (.inl rfl) hsb.2 (by obtain ⟨o,_,_,e,_⟩ := hn; rw [e]; rfl)
    refine hq _ R' ⟨f.kind,f.names,f.gl,f.bl,⟨_,hn,fun y j u a b c => ?_⟩,fun y hy => ?_,f.apart,fun n c hc => ⟨(f.off n c hc).1,?_⟩,f.own⟩ X'
    · by_cases hyx : y = x
      · subst hyx
        rw [hs] at b; cases b
        have hi : i < σ.length := by
          have := (List.getElem?_eq_some_iff.mp c).1; rwa [List.length_set] at this
        rw [List.getElem?_set_self hi] at c
        cases c
        exact ⟨v',by simp,hv⟩
      · have hij : i ≠ j := by rintro rfl; exact hyx (idxOf_inj b hs)
        rw [List.getElem?_set_ne hij] at c
        obtain ⟨u',p,q⟩ := hl y j u a b c
        exact ⟨u',by simp [hyx,p],q⟩
    · obtain ⟨c,v₀,a,b,hv'⟩ := f.cel y hy
      refine ⟨c,v₀,a,b.sameBut hsb (f.off y c a).1,fun j u p q => ?_⟩
      have hij : i ≠ j := by
        rintro rfl
        have := idxOf_inj p hs
        subst this
        rw [hk] at hy; cases hy
      rw [List.getElem?_set_ne hij] at q
      exact hv' j u p q
    · show (h'.get? c).isSome = true
      rw [hsb.2 c (f.off n c hc).1]; exact (f.off n c hc).2
  · obtain ⟨c,v₀,a,b,hl⟩ := f.cel x hk
    have hc := a
    refine wpAny_storeName_cell f.kind ((f.kindOf x).trans hk) a b fun h' hn hsb => ?_
    obtain ⟨R',X'⟩ := upd h' s.toks c (.inr hc) hsb.2 (by obtain ⟨o,e,_⟩ := hn; rw [e]; rfl)
    refine hq _ R' ⟨f.kind,f.names,f.gl,f.bl,?_,fun y hy => ?_,f.apart,fun n d hd => ⟨(f.off n d hd).1,?_⟩,f.own⟩ X'
    · obtain ⟨m,hm,hl'⟩ := f.loc
      refine ⟨m,hm.sameBut hsb (f.off x c hc).1.symm,fun y j u p q r => ?_⟩
      have hij : i ≠ j := by
        rintro rfl
        have := idxOf_inj q hs
        subst this
        rw [hk] at p; cases p
      rw [List.getElem?_set_ne hij] at r
      exact hl' y j u p q r
    · by_cases hyx : y = x
      · subst hyx
        refine ⟨c,some v',a,hn,fun j u p q => ?_⟩
        rw [hs] at p; cases p
        have hi : i < σ.length := by
          have := (List.getElem?_eq_some_iff.mp q).1; rwa [List.length_set] at this
        rw [List.getElem?_set_self hi] at q
        cases q
        exact ⟨v',rfl,hv⟩
      · obtain ⟨d,u₀,a',b',hv'⟩ := f.cel y hy
        have hdc : d ≠ c := fun q => hyx (f.apart y x c (q ▸ a') hc)
        refine ⟨d,u₀,a',b'.sameBut hsb hdc,fun j u p q => ?_⟩
        have hij : i ≠ j := by rintro rfl; exact hyx (idxOf_inj p hs)
        rw [List.getElem?_set_ne hij] at q
        exact hv' j u p q
    · show (h'.get? d).isSome = true
      by_cases hdc : d = c
      · subst hdc; obtain ⟨o,e,_⟩ := hn; rw [e]; rfl
      · rw [hsb.2 d hdc]; exact (f.off n d hd).2
end
end Mine
namespace Mine
open PySem
inductive VarQ (σ : Sig) (i : Nat) (h : H) (Q : V → H → Prop) : Prop
  | mk (v : V) (e : σ[i]? = some (some v)) (q : Q v h) : VarQ σ i h Q
inductive BinQ (op : Operator) (a b : Int) (h : H) (Q : V → H → Prop) : Prop
  | mk (r : Int) (e : binInt op a b = some r) (q : Q (.int r) h) : BinQ op a b h Q
inductive AnsQ {α : Type} (X : Option (α × H)) (Q : α → H → Prop) : Prop
  | mk (r : α) (h' : H) (e : X = some (r,h')) (q : Q r h') : AnsQ X Q
inductive AtQ (X : Option V) (h : H) (Q : V → H → Prop) : Prop
  | mk (r : V) (e : X = some r) (q : Q r h) : AtQ X h Q
inductive BooQ (X : Option Bool) (Q : Bool → Prop) : Prop
  | mk (r : Bool) (e : X = some r) (q : Q r) : BooQ X Q
inductive NegQ (x : V) (f : Int → Int) (h : H) (Q : V → H → Prop) : Prop
  | mk (i : Int) (e : x = .int i) (q : Q (.int (f i)) h) : NegQ x f h Q
inductive NotQ (X : Option Bool) (h : H) (Q : V → H → Prop) : Prop
  | mk (b : Bool) (e : X = some b) (q : Q (.bool (!b)) h) : NotQ X h Q
structure TruQ (b : Bool) (A B : Prop) : Prop where
  t : b = true → A
  f : b = false → B
inductive TruV (X : Option Bool) (A B : Prop) : Prop
  | mk (b : Bool) (e : X = some b) (q : TruQ b A B) : TruV X A B
structure OkQ (b : Bool) (A : Prop) : Prop where
  e : b = true
  q : A
inductive NewQ (X : Option (V × H)) (a : Nat) (Q : V → H → Prop) : Prop
  | mk (h' : H) (e : X = some (.none,h')) (q : Q (.ref a) h') : NewQ X a Q
inductive RngQ (x : V) (Z : Int → Int → Int → Prop) : Prop
  | mk (i : Int) (e : x = .int i) (ok : rangeOk 0 i 1 = true) (q : Z 0 i 1) : RngQ x Z
noncomputable def F2 (x y : V) (Z : Int → Int → Int → Prop) : Prop := ∃ i j,x = .int i ∧ y = .int j ∧ rangeOk i j 1 = true ∧ Z i j 1
noncomputable def F3 (x y z : V) (Z : Int → Int → Int → Prop) : Prop := ∃ i j k,x = .int i ∧ y = .int j ∧ z = .int k ∧ rangeOk i j k = true ∧ Z i j k
inductive LstQ (X : Option O) (A : Prop) : Prop
  | mk (xs : List V) (e : X = some (.lst xs)) (q : A) : LstQ X A
inductive ValQ (C : Nat → Option O) (v : V) (h : H) (Q : It → H → Prop) : Prop
  | mk (o : O) (xs : List V) (e : objOf C h v = some o) (e' : itemsOf o = some xs) (q : Q ⟨xs,fun h => stable C v o h⟩ h) : ValQ C v h Q
inductive ComQ (X : Option (List V × H)) (Q : V → H → Prop) : Prop
  | mk (vs : List V) (h2 : H) (e : X = some (vs,h2)) (ok : vs.length ≤ lenMax) (q : Q (.ref h2.length) (h2 ++ [.lst vs])) : ComQ X Q
inductive NxQ (X : Option H) (σ : Sig) (Q : Fl → Sig → H → Prop) : Prop
  | mk (h' : H) (e : X = some h') (q : Q .next σ h') : NxQ X σ Q
inductive UnpQ (X : Option (List V)) (is : List Nat) (σ : Sig) (h : H) (Q : Fl → Sig → H → Prop) : Prop
  | mk (xs : List V) (σ1 : Sig) (e : X = some xs) (e' : setSlots is xs σ = some σ1) (q : Q .next σ1 h) : UnpQ X is σ h Q
inductive LoopQ (X : Option (Fl × Sig × H)) (Q : Fl → Sig → H → Prop) : Prop
  | mk (fl : Fl) (σ' : Sig) (h' : H) (e : X = some (fl,σ',h')) (q : Q fl σ' h') : LoopQ X Q
noncomputable abbrev KV := V → H → Prop
noncomputable abbrev WV := Sig → H → KV → Prop
noncomputable abbrev KS := Fl → Sig → H → Prop
section
variable (P : Par) (F : Call)
noncomputable def wTruth (h : H) (x : V) (A B : Prop) : Prop := match x with
  | .none => B
  | .bool b => TruQ b A B
  | .int i => (i ≠ 0 → A) ∧ (i = 0 → B)
  | v => TruV (truthy P.C h v) A B
noncomputable def wBin (op : Operator) (x y : V) (h : H) (Q : KV) : Prop := match x,y with
  | .int a,.int b => (match op with
    | .Add => Q (.int (a + b)) h
    | .Sub => Q (.int (a - b)) h
    | .BitAnd => Q (.int (Builtin.bitAnd a b)) h
    | .BitOr => Q (.int (Builtin.bitOr a b)) h
    | .BitXor => Q (.int (Builtin.bitXor a b)) h
    | op => BinQ op a b h Q)
  | x,y => AnsQ (binV P.C op x y h) Q
noncomputable def wAug (op : Operator) (x y : V) (h : H) (Q : KV) : Prop := match x,y with
  | .int a,.int b => (match op with
    | .Add => Q (.int (a + b)) h
    | .Sub => Q (.int (a - b)) h
    | .BitAnd => Q (.int (Builtin.bitAnd a b)) h
    | .BitOr => Q (.int (Builtin.bitOr a b)) h
    | .BitXor => Q (.int (Builtin.bitXor a b)) h
    | op => BinQ op a b h Q)
  | x,y => AnsQ (augV P.C op x y h) Q
noncomputable def wCmp (h : H) (op : CmpOp) (x y : V) (Q : Bool → Prop) : Prop := match x,y with
  | .int a,.int b => (match op with
    | .Eq => Q (a == b)
    | .NotEq => Q (a != b)
    | .Lt => Q (decide (a < b))
    | .LtE => Q (decide (a ≤ b))
    | .Gt => Q (decide (a > b))
    | .GtE => Q (decide (a ≥ b))
    | op => BooQ (cmpV P.C h op (.int a) (.int b)) Q)
  | x,y => BooQ (cmpV P.C h op x y) Q
noncomputable def kB2 (f : V → V → H → KV → Prop) (x : V) (Q : KV) : KV := fun y h => f x y h Q
noncomputable def kB (w : WV) (σ : Sig) (f : V → V → H → KV → Prop) (Q : KV) : KV := fun x h => w σ h (kB2 f x Q)
noncomputable def kNeg (f : Int → Int) (Q : KV) : KV := fun x h => NegQ x f h Q
noncomputable def kNot (Q : KV) : KV := fun x h => NotQ (truthy P.C h x) h Q
noncomputable def kAnd (w : WV) (σ : Sig) (Q : KV) : KV := fun x h => wTruth P h x (w σ h Q) (Q x h)
noncomputable def kOr (w : WV) (σ : Sig) (Q : KV) : KV := fun x h => wTruth P h x (Q x h) (w σ h Q)
noncomputable def kBool (Q : KV) (h : H) : Bool → Prop := fun r => Q (.bool r) h
noncomputable def fCmp (op : CmpOp) (x y : V) (h : H) (Q : KV) : Prop := wCmp P h op x y (kBool Q h)
noncomputable def kC2 (w : WV) (σ : Sig) (op : CmpOp) (y : V) (h : H) (Q : KV) : Bool → Prop := fun r => TruQ r (w σ h (kB2 (fCmp P op) y Q)) (Q (.bool false) h)
noncomputable def fC2 (w : WV) (σ : Sig) (op1 op2 : CmpOp) (x y : V) (h : H) (Q : KV) : Prop := wCmp P h op1 x y (kC2 P w σ op2 y h Q)
noncomputable def kIte (wa wb : WV) (σ : Sig) (Q : KV) : KV := fun x h => wTruth P h x (wa σ h Q) (wb σ h Q)
noncomputable def kCall (f : Nat) (Q : KV) (vs : List V) (h : H) : Prop := AnsQ (F f vs h) Q
noncomputable def kNew (c : Nat) (Q : KV) (vs : List V) (h : H) : Prop := NewQ (F (P.inits c) (.ref h.length :: vs) (h ++ [.inst c (h.length + 1),.dct []])) h.length Q
noncomputable def kBi (k : Nat) (Q : KV) (vs : List V) (h : H) : Prop := AnsQ (biV P.C k vs h) Q
noncomputable def zR (Q : KV) (h : H) (a b c : Int) : Prop := Q (.ref h.length) (h ++ [.rng a b c])
noncomputable def zI (Q : It → H → Prop) (h : H) (a b c : Int) : Prop := Q ⟨(rangeList a b c).map .int,fun _ => true⟩ h
noncomputable def kRng1 (Q : KV) : KV := fun x h => RngQ x (zR Q h)
noncomputable def fRng2 (x y : V) (h : H) (Q : KV) : Prop := F2 x y (zR Q h)
noncomputable def fRng3 (x y z : V) (h : H) (Q : KV) : Prop := F3 x y z (zR Q h)
noncomputable def kD2 (w : WV) (σ : Sig) (f : V → V → V → H → KV → Prop) (x : V) (Q : KV) : KV := fun y h => w σ h (kB2 (f x) y Q)
noncomputable def kD (w1 w2 : WV) (σ : Sig) (f : V → V → V → H → KV → Prop) (Q : KV) : KV := fun x h => w1 σ h (kD2 w2 σ f x Q)
noncomputable def fMeth (k : Nat) (x y : V) (h : H) (Q : KV) : Prop := AnsQ (methV P.C k x y h) Q
noncomputable def kMeth (w : WV) (σ : Sig) (k : Nat) (Q : KV) : KV := fun x h => LstQ (objOf P.C h x) (w σ h (kB2 (fMeth P k) x Q))
noncomputable def kLst (Q : KV) (vs : List V) (h : H) : Prop := OkQ (Nat.ble vs.length lenMax) (Q (.ref h.length) (h ++ [.lst vs]))
noncomputable def kTup (Q : KV) (vs : List V) (h : H) : Prop := OkQ (Nat.ble vs.length lenMax) (Q (.ref h.length) (h ++ [.tup vs]))
noncomputable def xT (ifs : MEs) (σ : Sig) (x : V) (h : H) : Option (Bool × H) := evT P F ifs (some x :: σ) h
noncomputable def xE (elt : ME) (σ : Sig) (x : V) (h : H) : Option (V × H) := ev P F elt (some x :: σ) h
noncomputable def kComp (elt : ME) (ifs : MEs) (σ : Sig) (Q : KV) (I : It) (h : H) : Prop := ComQ (compL (compG (xT P F ifs σ) (xE P F elt σ)) I.ok I.xs h) Q
noncomputable def kAttr (k : Nat) (Q : KV) : KV := fun v h => AtQ (getAttr h v k) h Q
noncomputable def fSub (x y : V) (h : H) (Q : KV) : Prop := AtQ (getSub P.C h x y) h Q
noncomputable def fSlf (v x : V) (h : H) (Q : KV) : Prop := ∃ i xs,x = .int i ∧ objOf P.C h v = some (.lst xs) ∧ (0 ≤ i ∧ xs.length ≤ lenMax) ∧ Q (.ref h.length) (h ++ [.lst (xs.drop i.toNat)])
noncomputable def fSli (v x y : V) (h : H) (Q : KV) : Prop := ∃ i j xs,x = .int i ∧ y = .int j ∧ objOf P.C h v = some (.lst xs) ∧ (0 ≤ i ∧ 0 ≤ j ∧ xs.length ≤ lenMax) ∧ Q (.ref h.length) (h ++ [.lst ((xs.take j.toNat).drop i.toNat)])
noncomputable def kEs2 (v : V) (Q : List V → H → Prop) (vs : List V) (h : H) : Prop := Q (v :: vs) h
noncomputable def kEs (w : Sig → H → (List V → H → Prop) → Prop) (σ : Sig) (Q : List V → H → Prop) : KV := fun v h => w σ h (kEs2 v Q)
noncomputable def kRni (Q : It → H → Prop) : KV := fun x h => RngQ x (zI Q h)
noncomputable def kI2 (f : V → V → H → (It → H → Prop) → Prop) (x : V) (Q : It → H → Prop) : KV := fun y h => f x y h Q
noncomputable def kI (w : WV) (σ : Sig) (f : V → V → H → (It → H → Prop) → Prop) (Q : It → H → Prop) : KV := fun x h => w σ h (kI2 f x Q)
noncomputable def fIr2 (x y : V) (h : H) (Q : It → H → Prop) : Prop := F2 x y (zI Q h)
noncomputable def fIr3 (x y z : V) (h : H) (Q : It → H → Prop) : Prop := F3 x y z (zI Q h)
noncomputable def kJ2 (w : WV) (σ : Sig) (f : V → V → V → H → (It → H → Prop) → Prop) (x : V) (Q : It → H → Prop) : KV := fun y h => w σ h (kI2 (f x) y Q)
noncomputable def kJ (w1 w2 : WV) (σ : Sig) (f : V → V → V → H → (It → H → Prop) → Prop) (Q : It → H → Prop) : KV := fun x h => w1 σ h (kJ2 w2 σ f x Q)
noncomputable def kDis (Q : It → H → Prop) (vs : List V) (h : H) : Prop := OkQ (Nat.ble vs.length lenMax) (Q ⟨vs,fun _ => true⟩ h)
noncomputable def kVal (Q : It → H → Prop) : KV := fun v h => ValQ P.C v h Q
mutual
noncomputable def wE : ME → Sig → H → (V → H → Prop) → Prop
  | .bad,_,_,_ => False
  | .const v,_,h,Q => Q v h
  | .var i,σ,h,Q => VarQ σ i h Q
  | .tab k,_,h,Q => Q (P.tabs k) h
  | .bin op a b,σ,h,Q => wE a σ h (kB (wE b) σ (wBin P op) Q)
  | .neg a,σ,h,Q => wE a σ h (kNeg (fun i => -i) Q)
  | .inv a,σ,h,Q => wE a σ h (kNeg Builtin.bitNot Q)
  | .not a,σ,h,Q => wE a σ h (kNot P Q)
  | .and a b,σ,h,Q => wE a σ h (kAnd P (wE b) σ Q)
  | .or a b,σ,h,Q => wE a σ h (kOr P (wE b) σ Q)
  | .cmp op a b,σ,h,Q => wE a σ h (kB (wE b) σ (fCmp P op) Q)
  | .cmp2 op1 op2 a b c,σ,h,Q => wE a σ h (kB (wE b) σ (fC2 P (wE c) σ op1 op2) Q)
  | .ite t a b,σ,h,Q => wE t σ h (kIte P (wE a) (wE b) σ Q)
  | .call f as,σ,h,Q => wEs as σ h (kCall F f Q)
  | .new c as,σ,h,Q => wEs as σ h (kNew P F c Q)
  | .bi k as,σ,h,Q => wEs as σ h (kBi P k Q)
  | .rng1 a,σ,h,Q => wE a σ h (kRng1 Q)
  | .rng2 a b,σ,h,Q => wE a σ h (kB (wE b) σ fRng2 Q)
  | .rng3 a b c,σ,h,Q => wE a σ h (kD (wE b) (wE c) σ fRng3 Q)
  | .meth k o x,σ,h,Q => wE o σ h (kMeth P (wE x) σ k Q)
  | .lst as,σ,h,Q => wEs as σ h (kLst Q)
  | .tup as,σ,h,Q => wEs as σ h (kTup Q)
  | .comp elt it ifs,σ,h,Q => wI it σ h (kComp P F elt ifs σ Q)
  | .attr o k,σ,h,Q => wE o σ h (kAttr k Q)
  | .sub o i,σ,h,Q => wE o σ h (kB (wE i) σ (fSub P) Q)
  | .sliceFrom o lo,σ,h,Q => wE o σ h (kB (wE lo) σ (fSlf P) Q)
  | .slice o lo hi,σ,h,Q => wE o σ h (kD (wE lo) (wE hi) σ (fSli P) Q)
noncomputable def wEs : MEs → Sig → H → (List V → H → Prop) → Prop
  | .nil,_,h,Q => Q [] h
  | .cons e es,σ,h,Q => wE e σ h (kEs (wEs es) σ Q)
noncomputable def wI : MI → Sig → H → (It → H → Prop) → Prop
  | .rng1 a,σ,h,Q => wE a σ h (kRni Q)
  | .rng2 a b,σ,h,Q => wE a σ h (kI (wE b) σ fIr2 Q)
  | .rng3 a b c,σ,h,Q => wE a σ h (kJ (wE b) (wE c) σ fIr3 Q)
  | .disp as,σ,h,Q => wEs as σ h (kDis Q)
  | .val e,σ,h,Q => wE e σ h (kVal P Q)
end
noncomputable def kT (w : Sig → H → (Bool → H → Prop) → Prop) (σ : Sig) (Q : Bool → H → Prop) : KV := fun v h => wTruth P h v (w σ h Q) (Q false h)
noncomputable def wT : MEs → Sig → H → (Bool → H → Prop) → Prop
  | .nil,_,h,Q => Q true h
  | .cons e es,σ,h,Q => wE P F e σ h (kT P (wT es) σ Q)
noncomputable def kAsg (i : Nat) (σ : Sig) (Q : KS) : KV := fun v h => OkQ (Nat.blt i σ.length) (Q .next (σ.set i (some v)) h)
noncomputable def kUnp (is : List Nat) (σ : Sig) (Q : KS) : KV := fun v h => UnpQ (unpackV P.C h v is.length) is σ h Q
noncomputable def kSat2 (k : Nat) (v : V) (σ : Sig) (Q : KS) : KV := fun ov h => NxQ (setAttr h ov k v) σ Q
noncomputable def kSat (w : WV) (k : Nat) (σ : Sig) (Q : KS) : KV := fun v h => w σ h (kSat2 k v σ Q)
noncomputable def kSsb3 (v ov : V) (σ : Sig) (Q : KS) : KV := fun iv h => NxQ (setSub h ov iv v) σ Q
noncomputable def kSsb2 (w : WV) (v : V) (σ : Sig) (Q : KS) : KV := fun ov h => w σ h (kSsb3 v ov σ Q)
noncomputable def kSsb (wo wi : WV) (σ : Sig) (Q : KS) : KV := fun v h => wo σ h (kSsb2 wi v σ Q)
noncomputable def kPut (i : Nat) (σ : Sig) (Q : KS) : KV := fun r h => Q .next (σ.set i (some r)) h
noncomputable def kAug2 (op : Operator) (old : V) (K : KV) : KV := fun v h => wAug P op old v h K
noncomputable def kAug (w : WV) (op : Operator) (σ : Sig) (K : KV) : KV := fun old h => w σ h (kAug2 P op old K)
noncomputable def kAat (w : WV) (op : Operator) (k : Nat) (σ : Sig) (Q : KS) : KV := fun ov h => AtQ (getAttr h ov k) h (kAug P w op σ fun r h => NxQ (setAttr h ov k r) σ Q)
noncomputable def kAsb2 (w : WV) (op : Operator) (ov : V) (σ : Sig) (Q : KS) : KV := fun iv h => AtQ (getSub P.C h ov iv) h (kAug P w op σ fun r h => NxQ (setSub h ov iv r) σ Q)
noncomputable def kAsb (wi w : WV) (op : Operator) (σ : Sig) (Q : KS) : KV := fun ov h => wi σ h (kAsb2 P w op ov σ Q)
noncomputable def kIf (wa wb : Sig → H → KS → Prop) (σ : Sig) (Q : KS) : KV := fun x h => wTruth P h x (wa σ h Q) (wb σ h Q)
noncomputable def kFor (i : Nat) (b : MSs) (σ : Sig) (Q : KS) (I : It) (h : H) : Prop := LoopQ (forL (fun x σ h => if i < σ.length then exs P F b (σ.set i (some x)) h else none) I.ok I.xs σ h) Q
noncomputable def kForT (is : List Nat) (b : MSs) (σ : Sig) (Q : KS) (I : It) (h : H) : Prop := LoopQ (forL (fun x σ h => bq (unpackV P.C h x is.length) fun xs => bq (setSlots is xs σ) fun σ1 => exs P F b σ1 h) I.ok I.xs σ h) Q
noncomputable def kRet (σ : Sig) (Q : KS) : KV := fun v h => Q (.ret v) σ h
noncomputable def kExp (σ : Sig) (Q : KS) : KV := fun v h => v = .none ∧ Q .next σ h
noncomputable def kSeq (w : Sig → H → KS → Prop) (Q : KS) : KS := fun fl σ h => match fl with
  | .next => w σ h Q
  | fl => Q fl σ h
mutual
noncomputable def wS : MS → Sig → H → (Fl → Sig → H → Prop) → Prop
  | .bad,_,_,_ => False
  | .assign i e,σ,h,Q => wE P F e σ h (kAsg i σ Q)
  | .unpack is e,σ,h,Q => wE P F e σ h (kUnp P is σ Q)
  | .setattr o k e,σ,h,Q => wE P F e σ h (kSat (wE P F o) k σ Q)
  | .setsub o i e,σ,h,Q => wE P F e σ h (kSsb (wE P F o) (wE P F i) σ Q)
  | .aug i op e,σ,h,Q => VarQ σ i h (kAug P (wE P F e) op σ (kPut i σ Q))
  | .augattr o k op e,σ,h,Q => wE P F o σ h (kAat P (wE P F e) op k σ Q)
  | .augsub o i op e,σ,h,Q => wE P F o σ h (kAsb P (wE P F i) (wE P F e) op σ Q)
  | .ite t a b,σ,h,Q => wE P F t σ h (kIf P (wSs a) (wSs b) σ Q)
  | .while t b,σ,h,Q => LoopQ (whileL (fun σ h => bo (ev P F t σ h) fun x h1 => bq (truthy P.C h1 x) fun b => some (b,h1)) (fun σ h => exs P F b σ h) whileMax σ h) Q
  | .for i it b,σ,h,Q => wI P F it σ h (kFor P F i b σ Q)
  | .forT is it b,σ,h,Q => wI P F it σ h (kForT P F is b σ Q)
  | .ret e,σ,h,Q => wE P F e σ h (kRet σ Q)
  | .brk,σ,h,Q => Q .brk σ h
  | .cont,σ,h,Q => Q .cont σ h
  | .expr e,σ,h,Q => wE P F e σ h (kExp σ Q)
noncomputable def wSs : MSs → Sig → H → (Fl → Sig → H → Prop) → Prop
  | .nil,σ,h,Q => Q .next σ h
  | .cons s ss,σ,h,Q => wS s σ h (kSeq (wSs ss) Q)
end
end
section
variable {P : Par} {F : Call}
theorem wTruth_sound {h : H} {x : V} {A B : Prop} (w : wTruth P h x A B) : TruV (truthy P.C h x) A B := by
  cases x with
  | none => exact ⟨false,rfl,nofun,fun _ => w⟩
  | bool b => exact ⟨b,rfl,w⟩
  | int i => exact ⟨i != 0,rfl,fun q => w.1 (bne_iff_ne.mp q),fun q => w.2 (Classical.byContradiction fun z => by rw [bne_iff_ne.mpr z] at q; exact tt q)⟩
  | ref a => exact w
  | con a => exact w
theorem AnsQ.int {op : Operator} {a b : Int} {h : H} {Q : KV} {f : V × H → V × H} (w : BinQ op a b h Q) : AnsQ ((binInt op a b).map fun r => (V.int r,h)) Q := by
  obtain ⟨r,e,q⟩ := w; exact ⟨_,_,congrArg (Option.map fun r => (V.int r,h)) e,q⟩
theorem wBin_sound {op : Operator} {x y : V} {h : H} {Q : KV} (w : wBin P op x y h Q) : AnsQ (binV P.C op x y h) Q := by
  cases x with
  | int a => cases y with
    | int b => cases op <;> first | exact AnsQ.int (f := id) w | exact ⟨_,_,rfl,w⟩
    | _ => exact w
  | _ => exact w
theorem wAug_sound {op : Operator} {x y : V} {h : H} {Q : KV} (w : wAug P op x y h Q) : AnsQ (augV P.C op x y h) Q := by
  cases x with
  | int a => cases y with
    | int b => cases op <;> first | exact AnsQ.int (f := id) w | exact ⟨_,_,rfl,w⟩
    | _ => exact w
  | _ => exact w
theorem wCmp_sound {h : H} {op : CmpOp} {x y : V} {Q : Bool → Prop} (w : wCmp P h op x y Q) : BooQ (cmpV P.C h op x y) Q := by
  cases x with
  | int a => cases y with
    | int b => cases op <;> first | exact w | exact ⟨_,rfl,w⟩
    | _ => exact w
  | _ => exact w
mutual
theorem wE_sound : ∀ (e : ME) {σ : Sig} {h : H} {Q : KV},wE P F e σ h Q → AnsQ (ev P F e σ h) Q
  | .bad,_,_,_,w => w.elim
  | .const v,_,h,_,w => ⟨v,h,rfl,w⟩
  | .var i,_,h,_,⟨v,e,q⟩ => ⟨v,h,bq_mk (lookS_mk e) rfl,q⟩
  | .tab k,_,h,_,w => ⟨_,h,rfl,w⟩
  | .bin op a b,_,_,_,w => let ⟨_,_,e1,w⟩ := wE_sound a w; let ⟨_,_,e2,w⟩ := wE_sound b w; let ⟨_,_,e3,q⟩ := wBin_sound w; ⟨_,_,bo_mk e1 (bo_mk e2 e3),q⟩
  | .neg a,_,_,_,w => by obtain ⟨x,h1,e1,i,rfl,q⟩ := wE_sound a w; exact ⟨_,_,bo_mk e1 rfl,q⟩
  | .inv a,_,_,_,w => by obtain ⟨x,h1,e1,i,rfl,q⟩ := wE_sound a w; exact ⟨_,_,bo_mk e1 rfl,q⟩
  | .not a,_,_,_,w => let ⟨_,_,e1,_,e2,q⟩ := wE_sound a w; ⟨_,_,bo_mk e1 (bq_mk e2 rfl),q⟩
  | .and a b,_,_,_,w => by
    obtain ⟨x,h1,e1,w⟩ := wE_sound a w
    obtain ⟨c,e2,w⟩ := wTruth_sound w
    cases c with
    | true => obtain ⟨y,h2,e3,q⟩ := wE_sound b (w.t rfl); exact ⟨y,h2,bo_mk e1 (bt_t e2 e3),q⟩
    | false => exact ⟨x,h1,bo_mk e1 (bt_f e2 rfl),w.f rfl⟩
  | .or a b,_,_,_,w => by
    obtain ⟨x,h1,e1,w⟩ := wE_sound a w
    obtain ⟨c,e2,w⟩ := wTruth_sound w
    cases c with
    | true => exact ⟨x,h1,bo_mk e1 (bt_t e2 rfl),w.t rfl⟩
    | false => obtain ⟨y,h2,e3,q⟩ := wE_sound b (w.f rfl); exact ⟨y,h2,bo_mk e1 (bt_f e2 e3),q⟩
  | .cmp op a b,_,_,_,w => let ⟨_,_,e1,w⟩ := wE_sound a w; let ⟨_,_,e2,w⟩ := wE_sound b w; let ⟨_,e3,q⟩ := wCmp_sound w; ⟨_,_,bo_mk e1 (bo_mk e2 (bq_mk e3 rfl)),q⟩
  | .cmp2 op1 op2 a b c,_,_,_,w => by
    obtain ⟨x,h1,e1,w⟩ := wE_sound a w
    obtain ⟨y,h2,e2,w⟩ := wE_sound b w
    obtain ⟨r,e3,w⟩ := wCmp_sound w
    cases r with
    | true =>
      obtain ⟨z,h3,e4,w⟩ := wE_sound c (w.t rfl)
      obtain ⟨r,e5,q⟩ := wCmp_sound w
      exact ⟨_,h3,bo_mk e1 (bo_mk e2 (bt_t e3 (bo_mk e4 (bq_mk e5 rfl)))),q⟩
    | false => exact ⟨_,h2,bo_mk e1 (bo_mk e2 (bt_f e3 rfl)),w.f rfl⟩
  | .ite t a b,_,_,_,w => by
    obtain ⟨x,h1,e1,w⟩ := wE_sound t w
    obtain ⟨c,e2,w⟩ := wTruth_sound w
    cases c with
    | true => obtain ⟨y,h2,e3,q⟩ := wE_sound a (w.t rfl); exact ⟨y,h2,bo_mk e1 (bt_t e2 e3),q⟩
    | false => obtain ⟨y,h2,e3,q⟩ := wE_sound b (w.f rfl); exact ⟨y,h2,bo_mk e1 (bt_f e2 e3),q⟩
  | .call f as,_,_,_,w => let ⟨_,_,e1,_,_,e2,q⟩ := wEs_sound as w; ⟨_,_,bo_mk e1 e2,q⟩
  | .new c as,_,_,_,w => let ⟨_,_,e1,_,e2,q⟩ := wEs_sound as w; ⟨_,_,bo_mk e1 (bo_mk e2 rfl),q⟩
  | .bi k as,_,_,_,w => let ⟨_,_,e1,_,_,e2,q⟩ := wEs_sound as w; ⟨_,_,bo_mk e1 e2,q⟩
  | .rng1 a,_,_,_,w => by obtain ⟨x,h1,e1,i,rfl,ok,q⟩ := wE_sound a w; exact ⟨_,_,bo_mk e1 (if_pos ok),q⟩
  | .rng2 a b,_,_,_,w => by
    obtain ⟨x,h1,e1,w⟩ := wE_sound a w
    obtain ⟨y,h2,e2,i,j,rfl,rfl,ok,q⟩ := wE_sound b w
    exact ⟨_,_,bo_mk e1 (bo_mk e2 (if_pos ok)),q⟩
  | .rng3 a b c,_,_,_,w => by
    obtain ⟨x,h1,e1,w⟩ := wE_sound a w
    obtain ⟨y,h2,e2,w⟩ := wE_sound b w
    obtain ⟨z,h3,e3,i,j,k,rfl,rfl,rfl,ok,q⟩ := wE_sound c w
    exact ⟨_,_,bo_mk e1 (bo_mk e2 (bo_mk e3 (if_pos ok))),q⟩
  | .meth k o x,_,_,_,w => let ⟨_,_,e1,_,e2,w⟩ := wE_sound o w; let ⟨_,_,e3,_,_,e4,q⟩ := wE_sound x w; ⟨_,_,bo_mk e1 (bL_mk e2 (bo_mk e3 e4)),q⟩
  | .lst as,_,_,_,w => let ⟨_,_,e1,ok,q⟩ := wEs_sound as w; ⟨_,_,bo_mk e1 (if_pos (Nat.le_of_ble_eq_true ok)),q⟩
  | .tup as,_,_,_,w => let ⟨_,_,e1,ok,q⟩ := wEs_sound as w; ⟨_,_,bo_mk e1 (if_pos (Nat.le_of_ble_eq_true ok)),q⟩
  | .comp elt it ifs,_,_,_,w => let ⟨_,_,e1,_,_,e2,ok,q⟩ := wI_sound it w; ⟨_,_,bo_mk e1 (bo_mk e2 (if_pos ok)),q⟩
  | .attr o k,_,_,_,w => let ⟨_,_,e1,_,e2,q⟩ := wE_sound o w; ⟨_,_,bo_mk e1 (bq_mk e2 rfl),q⟩
  | .sub o i,_,_,_,w => let ⟨_,_,e1,w⟩ := wE_sound o w; let ⟨_,_,e2,_,e3,q⟩ := wE_sound i w; ⟨_,_,bo_mk e1 (bo_mk e2 (bq_mk e3 rfl)),q⟩
  | .sliceFrom o lo,_,_,_,w => by
    obtain ⟨v,h1,e1,w⟩ := wE_sound o w
    obtain ⟨x,h2,e2,i,xs,rfl,e3,ok,q⟩ := wE_sound lo w
    exact ⟨_,_,bo_mk e1 (bo_mk e2 (bL_mk e3 (if_pos (by rw [decide_eq_true ok.1,decide_eq_true ok.2]; rfl)))),q⟩
  | .slice o lo hi,_,_,_,w => by
    obtain ⟨v,h1,e1,w⟩ := wE_sound o w
    obtain ⟨x,h2,e2,w⟩ := wE_sound lo w
    obtain ⟨y,h3,e3,i,j,xs,rfl,rfl,e4,ok,q⟩ := wE_sound hi w
    exact ⟨_,_,bo_mk e1 (bo_mk e2 (bo_mk e3 (bL_mk e4 (if_pos (by rw [decide_eq_true ok.1,decide_eq_true ok.2.1,decide_eq_true ok.2.2]; rfl))))),q⟩
theorem wEs_sound : ∀ (es : MEs) {σ : Sig} {h : H} {Q : List V → H → Prop},wEs P F es σ h Q → AnsQ (evs P F es σ h) Q
  | .nil,_,h,_,w => ⟨[],h,rfl,w⟩
  | .cons e es,_,_,_,w => let ⟨_,_,e1,w⟩ := wE_sound e w; let ⟨_,_,e2,q⟩ := wEs_sound es w; ⟨_,_,bo_mk e1 (bo_mk e2 rfl),q⟩
theorem wI_sound : ∀ (i : MI) {σ : Sig} {h : H} {Q : It → H → Prop},wI P F i σ h Q → AnsQ (evI P F i σ h) Q
  | .rng1 a,_,_,_,w => by obtain ⟨x,h1,e1,i,rfl,ok,q⟩ := wE_sound a w; exact ⟨_,_,bo_mk e1 (if_pos ok),q⟩
  | .rng2 a b,_,_,_,w => by
    obtain ⟨x,h1,e1,w⟩ := wE_sound a w
    obtain ⟨y,h2,e2,i,j,rfl,rfl,ok,q⟩ := wE_sound b w
    exact ⟨_,_,bo_mk e1 (bo_mk e2 (if_pos ok)),q⟩
  | .rng3 a b c,_,_,_,w => by
    obtain ⟨x,h1,e1,w⟩ := wE_sound a w
    obtain ⟨y,h2,e2,w⟩ := wE_sound b w
    obtain ⟨z,h3,e3,i,j,k,rfl,rfl,rfl,ok,q⟩ := wE_sound c w
    exact ⟨_,_,bo_mk e1 (bo_mk e2 (bo_mk e3 (if_pos ok))),q⟩
  | .disp as,_,_,_,w => let ⟨_,_,e1,ok,q⟩ := wEs_sound as w; ⟨_,_,bo_mk e1 (if_pos (Nat.le_of_ble_eq_true ok)),q⟩
  | .val e,_,_,_,w => let ⟨_,_,e1,_,_,e2,e3,q⟩ := wE_sound e w; ⟨_,_,bo_mk e1 (bq_mk e2 (bq_mk e3 rfl)),q⟩
end
theorem wT_sound : ∀ (es : MEs) {σ : Sig} {h : H} {Q : Bool → H → Prop},wT P F es σ h Q → AnsQ (evT P F es σ h) Q
  | .nil,_,h,_,w => ⟨true,h,rfl,w⟩
  | .cons e es,_,_,_,w => by
    obtain ⟨v,h1,e1,w⟩ := wE_sound e w
    obtain ⟨c,e2,w⟩ := wTruth_sound w
    cases c with
    | true => obtain ⟨b,h',e3,q⟩ := wT_sound es (w.t rfl); exact ⟨b,h',bo_mk e1 (bt_t e2 e3),q⟩
    | false => exact ⟨false,h1,bo_mk e1 (bt_f e2 rfl),w.f rfl⟩
mutual
theorem wS_sound : ∀ (s : MS) {σ : Sig} {h : H} {Q : KS},wS P F s σ h Q → LoopQ (ex P F s σ h) Q
  | .bad,_,_,_,w => w.elim
  | .assign i e,_,_,_,w => let ⟨_,_,e1,hl,q⟩ := wE_sound e w; ⟨_,_,_,bo_mk e1 (if_pos (Nat.le_of_ble_eq_true hl)),q⟩
  | .unpack is e,_,_,_,w => let ⟨_,_,e1,_,_,e2,e3,q⟩ := wE_sound e w; ⟨_,_,_,bo_mk e1 (bq_mk e2 (bq_mk e3 rfl)),q⟩
  | .setattr o k e,_,_,_,w => let ⟨_,_,e1,w⟩ := wE_sound e w; let ⟨_,_,e2,_,e3,q⟩ := wE_sound o w; ⟨_,_,_,bo_mk e1 (bo_mk e2 (bq_mk e3 rfl)),q⟩
  | .setsub o i e,_,_,_,w => let ⟨_,_,e1,w⟩ := wE_sound e w; let ⟨_,_,e2,w⟩ := wE_sound o w; let ⟨_,_,e3,_,e4,q⟩ := wE_sound i w; ⟨_,_,_,bo_mk e1 (bo_mk e2 (bo_mk e3 (bq_mk e4 rfl))),q⟩
  | .aug i op e,_,_,_,⟨_,e0,w⟩ => let ⟨_,_,e1,w⟩ := wE_sound e w; let ⟨_,_,e2,q⟩ := wAug_sound w; ⟨_,_,_,bq_mk (lookS_mk e0) (bo_mk e1 (bo_mk e2 rfl)),q⟩
  | .augattr o k op e,_,_,_,w => let ⟨_,_,e1,_,e2,w⟩ := wE_sound o w; let ⟨_,_,e3,w⟩ := wE_sound e w; let ⟨_,_,e4,_,e5,q⟩ := wAug_sound w; ⟨_,_,_,bo_mk e1 (bq_mk e2 (bo_mk e3 (bo_mk e4 (bq_mk e5 rfl)))),q⟩
  | .augsub o i op e,_,_,_,w => let ⟨_,_,e1,w⟩ := wE_sound o w; let ⟨_,_,e2,_,e3,w⟩ := wE_sound i w; let ⟨_,_,e4,w⟩ := wE_sound e w; let ⟨_,_,e5,_,e6,q⟩ := wAug_sound w; ⟨_,_,_,bo_mk e1 (bo_mk e2 (bq_mk e3 (bo_mk e4 (bo_mk e5 (bq_mk e6 rfl))))),q⟩
  | .ite t a b,_,_,_,w => by
    obtain ⟨x,h1,e1,w⟩ := wE_sound t w
    obtain ⟨c,e2,w⟩ := wTruth_sound w
    cases c with
    | true => obtain ⟨fl,σ',h',e3,q⟩ := wSs_sound a (w.t rfl); exact ⟨fl,σ',h',bo_mk e1 (bt_t e2 e3),q⟩
    | false => obtain ⟨fl,σ',h',e3,q⟩ := wSs_sound b (w.f rfl); exact ⟨fl,σ',h',bo_mk e1 (bt_f e2 e3),q⟩
  | .while t b,_,_,_,w => w
  | .for i it b,_,_,_,w => let ⟨_,_,e1,_,_,_,e2,q⟩ := wI_sound it w; ⟨_,_,_,bo_mk e1 e2,q⟩
  | .forT is it b,_,_,_,w => let ⟨_,_,e1,_,_,_,e2,q⟩ := wI_sound it w; ⟨_,_,_,bo_mk e1 e2,q⟩
  | .ret e,_,_,_,w => let ⟨_,_,e1,q⟩ := wE_sound e w; ⟨_,_,_,bo_mk e1 rfl,q⟩
  | .brk,_,_,_,w => ⟨_,_,_,rfl,w⟩
  | .cont,_,_,_,w => ⟨_,_,_,rfl,w⟩
  | .expr e,_,_,_,w => by obtain ⟨v,h1,e1,rfl,q⟩ := wE_sound e w; exact ⟨_,_,_,bo_mk e1 rfl,q⟩
theorem wSs_sound : ∀ (ss : MSs) {σ : Sig} {h : H} {Q : KS},wSs P F ss σ h Q → LoopQ (exs P F ss σ h) Q
  | .nil,σ,h,_,w => ⟨.next,σ,h,rfl,w⟩
  | .cons s ss,_,_,_,w => by
    obtain ⟨fl,σ1,h1,e1,w⟩ := wS_sound s w
    cases fl with
    | next => obtain ⟨fl,σ',h',e2,q⟩ := wSs_sound ss w; exact ⟨fl,σ',h',sx_mk e1 e2,q⟩
    | brk => exact ⟨_,_,_,sx_mk e1 rfl,w⟩
    | cont => exact ⟨_,_,_,sx_mk e1 rfl,w⟩
    | ret v => exact ⟨_,_,_,sx_mk e1 rfl,w⟩
end
end
section
variable {α β γ : Type} {r : γ} {G : Prop}
theorem bo_e {X : Option (α × H)} {f : α → H → Option γ} (e : bo X f = some r) (k : ∀ x h,X = some (x,h) → f x h = some r → G) : G := let ⟨x,h,a,b⟩ := bo_inv e; k x h a b
theorem bq_e {X : Option α} {f : α → Option γ} (e : bq X f = some r) (k : ∀ x,X = some x → f x = some r → G) : G := let ⟨x,a,b⟩ := bq_inv e; k x a b
theorem bI_e {x : V} {f : Int → Option γ} (e : bI x f = some r) (k : ∀ i,x = .int i → f i = some r → G) : G := let ⟨x,a,b⟩ := bI_inv e; k x a b
theorem bL_e {X : Option O} {f : List V → Option γ} (e : bL X f = some r) (k : ∀ xs,X = some (.lst xs) → f xs = some r → G) : G := let ⟨x,a,b⟩ := bL_inv e; k x a b
theorem bN_e {x : V} {A : Option γ} (e : bN x A = some r) (k : x = .none → A = some r → G) : G := let ⟨a,b⟩ := bN_inv e; k a b
theorem if_e {c : Prop} [Decidable c] {A : Option γ} (e : (if c then A else none) = some r) (k : c → A = some r → G) : G := let ⟨a,b⟩ := if_inv e; k a b
theorem sq2 {Q : α → β → Prop} {a : α} {b : β} {r : α × β} (e : some (a,b) = some r) (q : Q r.1 r.2) : Q a b := by cases e; exact q
theorem sq3 {Q : α → β → γ → Prop} {a : α} {b : β} {c : γ} {r : α × β × γ} (e : some (a,b,c) = some r) (q : Q r.1 r.2.1 r.2.2) : Q a b c := by cases e; exact q
theorem new_e {X : Option (V × H)} {A : H → Option γ} (e : bo X (fun v h => bN v (A h)) = some r) (k : ∀ h,X = some (.none,h) → A h = some r → G) : G :=
  let ⟨_,h,a,e⟩ := bo_inv e; let ⟨z,b⟩ := bN_inv e; k h (by rw [a,z]) b
end
section
variable {P : Par} {F : Call}
theorem wTruth_c {h : H} {v : V} {c : Bool} {A B : Prop} (e : truthy P.C h v = some c) (hA : c = true → A) (hB : c = false → B) : wTruth P h v A B := by
  cases v with
  | none => exact hB (Option.some.inj e).symm
  | bool b => obtain rfl := Option.some.inj e; exact ⟨hA,hB⟩
  | int i => obtain rfl := Option.some.inj e; exact ⟨fun z => hA (bne_iff_ne.mpr z),fun z => hB (by rw [z]; rfl)⟩
  | ref a => exact ⟨c,e,hA,hB⟩
  | con a => exact ⟨c,e,hA,hB⟩
theorem bin_c {op : Operator} {a b : Int} {h h' : H} {r : V} {Q : KV} (e : (binInt op a b).map (fun r => (V.int r,h)) = some (r,h')) (q : Q r h') : BinQ op a b h Q := by
  obtain ⟨x,e1,e2⟩ := Option.map_eq_some_iff.mp e
  cases e2
  exact ⟨x,e1,q⟩
theorem wBin_c {op : Operator} {x y r : V} {h h' : H} {Q : KV} (e : binV P.C op x y h = some (r,h')) (q : Q r h') : wBin P op x y h Q := by
  cases x with
  | int a => cases y with
    | int b => cases op <;> first | exact bin_c (r := r) (h' := h') e q | (cases e; exact q)
    | _ => exact ⟨r,h',e,q⟩
  | _ => exact ⟨r,h',e,q⟩
theorem wAug_c {op : Operator} {x y r : V} {h h' : H} {Q : KV} (e : augV P.C op x y h = some (r,h')) (q : Q r h') : wAug P op x y h Q := by
  cases x with
  | int a => cases y with
    | int b => cases op <;> first | exact bin_c (r := r) (h' := h') e q | (cases e; exact q)
    | _ => exact ⟨r,h',e,q⟩
  | _ => exact ⟨r,h',e,q⟩
theorem wCmp_c {h : H} {op : CmpOp} {x y : V} {r : Bool} {Q : Bool → Prop} (e : cmpV P.C h op x y = some r) (q : Q r) : wCmp P h op x y Q := by
  cases x with
  | int a => cases y with
    | int b => cases op <;> first | exact ⟨r,e,q⟩ | (cases e; exact q)
    | _ => exact ⟨r,e,q⟩
  | _ => exact ⟨r,e,q⟩
theorem bt_c {α : Type} {h : H} {x : V} {A B : Option α} {r : α} {A' B' : Prop} (e : bt (truthy P.C h x) A B = some r) (ha : A = some r → A') (hb : B = some r → B') : wTruth P h x A' B' := by
  rcases bt_inv e with ⟨e2,e⟩ | ⟨e2,e⟩
  · exact wTruth_c e2 (fun _ => ha e) nofun
  · exact wTruth_c e2 nofun fun _ => hb e
theorem dec2 {p q : Prop} [Decidable p] [Decidable q] (e : (decide p && decide q) = true) : p ∧ q := by
  rw [Bool.and_eq_true,decide_eq_true_eq,decide_eq_true_eq] at e; exact e
theorem dec3 {p q r : Prop} [Decidable p] [Decidable q] [Decidable r] (e : (decide p && decide q && decide r) = true) : p ∧ q ∧ r := ⟨of_decide_eq_true (Bool.and_eq_true_iff.mp (Bool.and_eq_true_iff.mp e).1).1,of_decide_eq_true (Bool.and_eq_true_iff.mp (Bool.and_eq_true_iff.mp e).1).2,of_decide_eq_true (Bool.and_eq_true_iff.mp e).2⟩
theorem exs_inv {s : MS} {ss : MSs} {σ : Sig} {h : H} {r : Fl × Sig × H} (e : exs P F (.cons s ss) σ h = some r) : (∃ σ1 h1,ex P F s σ h = some (.next,σ1,h1) ∧ exs P F ss σ1 h1 = some r) ∨ (ex P F s σ h = some r ∧ r.1 ≠ .next) := by
  obtain ⟨fl1,σ1,h1,e1,e⟩ := sx_inv e
  cases fl1 with
  | next => exact .inl ⟨σ1,h1,e1,e⟩
  | brk => cases e; exact .inr ⟨e1,nofun⟩
  | cont => cases e; exact .inr ⟨e1,nofun⟩
  | ret v => cases e; exact .inr ⟨e1,nofun⟩
theorem kSeq_c {w : Sig → H → KS → Prop} {Q : KS} {r : Fl × Sig × H} (hn : r.1 ≠ .next) (q : Q r.1 r.2.1 r.2.2) : kSeq w Q r.1 r.2.1 r.2.2 := by
  obtain ⟨fl,σ,h⟩ := r
  cases fl with
  | next => exact absurd rfl hn
  | _ => exact q
mutual
theorem wE_c : ∀ (e : ME) {σ : Sig} {h : H} {r : V × H} {Q : KV},ev P F e σ h = some r → Q r.1 r.2 → wE P F e σ h Q
  | .bad,_,_,_,_,e,_ => nomatch e
  | .const v,_,_,_,Q,e,q => sq2 (Q := Q) e q
  | .var i,_,_,_,Q,e,q => bq_e e fun v e1 e => ⟨v,lookS_inv e1,sq2 (Q := Q) e q⟩
  | .tab k,_,_,_,Q,e,q => sq2 (Q := Q) e q
  | .bin op a b,_,_,_,Q,e,q => bo_e e fun _ _ e1 e => bo_e e fun _ _ e2 e => wE_c a e1 (wE_c b e2 (wBin_c e q))
  | .neg a,_,_,_,Q,e,q => bo_e e fun _ _ e1 e => bI_e e fun i ei e => wE_c a e1 ⟨i,ei,sq2 (Q := Q) e q⟩
  | .inv a,_,_,_,Q,e,q => bo_e e fun _ _ e1 e => bI_e e fun i ei e => wE_c a e1 ⟨i,ei,sq2 (Q := Q) e q⟩
  | .not a,_,_,_,Q,e,q => bo_e e fun _ _ e1 e => bq_e e fun b e2 e => wE_c a e1 ⟨b,e2,sq2 (Q := Q) e q⟩
  | .and a b,_,_,_,Q,e,q => bo_e e fun _ _ e1 e => wE_c a e1 (bt_c e (fun e => wE_c b e q) fun e => sq2 (Q := Q) e q)
  | .or a b,_,_,_,Q,e,q => bo_e e fun _ _ e1 e => wE_c a e1 (bt_c e (fun e => sq2 (Q := Q) e q) fun e => wE_c b e q)
  | .cmp op a b,_,_,_,Q,e,q => bo_e e fun _ _ e1 e => bo_e e fun _ _ e2 e => bq_e e fun _ e3 e => wE_c a e1 (wE_c b e2 (wCmp_c e3 (sq2 (Q := Q) e q)))
  | .cmp2 op1 op2 a b c,_,_,_,Q,e,q => bo_e e fun _ _ e1 e => bo_e e fun _ _ e2 e => wE_c a e1 (wE_c b e2 ((bt_inv e).elim (fun ⟨e3,e⟩ => wCmp_c e3 ⟨fun _ => bo_e e fun _ _ e4 e => bq_e e fun _ e5 e => wE_c c e4 (wCmp_c e5 (sq2 (Q := Q) e q)),nofun⟩) fun ⟨e3,e⟩ => wCmp_c e3 ⟨nofun,fun _ => sq2 (Q := Q) e q⟩))
  | .ite t a b,_,_,_,Q,e,q => bo_e e fun _ _ e1 e => wE_c t e1 (bt_c e (fun e => wE_c a e q) fun e => wE_c b e q)
  | .call f as,_,_,_,Q,e,q => bo_e e fun _ _ e1 e => wEs_c as e1 ⟨_,_,e,q⟩
  | .new c as,_,_,_,Q,e,q => bo_e e fun _ _ e1 e => new_e e fun _ e2 e => wEs_c as e1 ⟨_,e2,sq2 (Q := Q) e q⟩
  | .bi k as,_,_,_,Q,e,q => bo_e e fun _ _ e1 e => wEs_c as e1 ⟨_,_,e,q⟩
  | .rng1 a,_,_,_,Q,e,q => bo_e e fun _ _ e1 e => bI_e e fun i ei e => if_e e fun ok e => wE_c a e1 ⟨i,ei,ok,sq2 (Q := Q) e q⟩
  | .rng2 a b,_,_,_,Q,e,q => bo_e e fun _ _ e1 e => bI_e e fun i ei e => bo_e e fun _ _ e2 e => bI_e e fun j ej e => if_e e fun ok e => wE_c a e1 (wE_c b e2 ⟨i,j,ei,ej,ok,sq2 (Q := Q) e q⟩)
  | .rng3 a b c,_,_,_,Q,e,q => bo_e e fun _ _ e1 e => bI_e e fun i ei e => bo_e e fun _ _ e2 e => bI_e e fun j ej e => bo_e e fun _ _ e3 e => bI_e e fun k ek e => if_e e fun ok e =>
    wE_c a e1 (wE_c b e2 (wE_c c e3 ⟨i,j,k,ei,ej,ek,ok,sq2 (Q := Q) e q⟩))
  | .meth k o x,_,_,_,Q,e,q => bo_e e fun _ _ e1 e => bL_e e fun _ e2 e => bo_e e fun _ _ e3 e => wE_c o e1 ⟨_,e2,wE_c x e3 ⟨_,_,e,q⟩⟩
  | .lst as,_,_,_,Q,e,q => bo_e e fun _ _ e1 e => if_e e fun ok e => wEs_c as e1 ⟨Nat.ble_eq_true_of_le ok,sq2 (Q := Q) e q⟩
  | .tup as,_,_,_,Q,e,q => bo_e e fun _ _ e1 e => if_e e fun ok e => wEs_c as e1 ⟨Nat.ble_eq_true_of_le ok,sq2 (Q := Q) e q⟩
  | .comp elt it ifs,_,_,_,Q,e,q => bo_e e fun _ _ e1 e => bo_e e fun _ _ e2 e => if_e e fun ok e => wI_c it e1 ⟨_,_,e2,ok,sq2 (Q := Q) e q⟩
  | .attr o k,_,_,_,Q,e,q => bo_e e fun _ _ e1 e => bq_e e fun _ e2 e => wE_c o e1 ⟨_,e2,sq2 (Q := Q) e q⟩
  | .sub o i,_,_,_,Q,e,q => bo_e e fun _ _ e1 e => bo_e e fun _ _ e2 e => bq_e e fun _ e3 e => wE_c o e1 (wE_c i e2 ⟨_,e3,sq2 (Q := Q) e q⟩)
  | .sliceFrom o lo,_,_,_,Q,e,q => bo_e e fun _ _ e1 e => bo_e e fun _ _ e2 e => bI_e e fun i ei e => bL_e e fun xs e3 e => if_e e fun ok e => wE_c o e1 (wE_c lo e2 ⟨i,xs,ei,e3,dec2 ok,sq2 (Q := Q) e q⟩)
  | .slice o lo hi,_,_,_,Q,e,q => bo_e e fun _ _ e1 e => bo_e e fun _ _ e2 e => bI_e e fun i ei e => bo_e e fun _ _ e3 e => bI_e e fun j ej e => bL_e e fun xs e4 e => if_e e fun ok e =>
    wE_c o e1 (wE_c lo e2 (wE_c hi e3 ⟨i,j,xs,ei,ej,e4,dec3 ok,sq2 (Q := Q) e q⟩))
theorem wEs_c : ∀ (es : MEs) {σ : Sig} {h : H} {r : List V × H} {Q : List V → H → Prop},evs P F es σ h = some r → Q r.1 r.2 → wEs P F es σ h Q
  | .nil,_,_,_,Q,e,q => sq2 (Q := Q) e q
  | .cons a as,_,_,_,Q,e,q => bo_e e fun _ _ e1 e => bo_e e fun _ _ e2 e => wE_c a e1 (wEs_c as e2 (sq2 (Q := Q) e q))
theorem wI_c : ∀ (i : MI) {σ : Sig} {h : H} {r : It × H} {Q : It → H → Prop},evI P F i σ h = some r → Q r.1 r.2 → wI P F i σ h Q
  | .rng1 a,_,_,_,Q,e,q => bo_e e fun _ _ e1 e => bI_e e fun i ei e => if_e e fun ok e => wE_c a e1 ⟨i,ei,ok,sq2 (Q := Q) e q⟩
  | .rng2 a b,_,_,_,Q,e,q => bo_e e fun _ _ e1 e => bI_e e fun i ei e => bo_e e fun _ _ e2 e => bI_e e fun j ej e => if_e e fun ok e => wE_c a e1 (wE_c b e2 ⟨i,j,ei,ej,ok,sq2 (Q := Q) e q⟩)
  | .rng3 a b c,_,_,_,Q,e,q => bo_e e fun _ _ e1 e => bI_e e fun i ei e => bo_e e fun _ _ e2 e => bI_e e fun j ej e => bo_e e fun _ _ e3 e => bI_e e fun k ek e => if_e e fun ok e =>
    wE_c a e1 (wE_c b e2 (wE_c c e3 ⟨i,j,k,ei,ej,ek,ok,sq2 (Q := Q) e q⟩))
  | .disp as,_,_,_,Q,e,q => bo_e e fun _ _ e1 e => if_e e fun ok e => wEs_c as e1 ⟨Nat.ble_eq_true_of_le ok,sq2 (Q := Q) e q⟩
  | .val a,_,_,_,Q,e,q => bo_e e fun _ _ e1 e => bq_e e fun _ e2 e => bq_e e fun _ e3 e => wE_c a e1 ⟨_,_,e2,e3,sq2 (Q := Q) e q⟩
end
theorem wT_c : ∀ (es : MEs) {σ : Sig} {h : H} {r : Bool × H} {Q : Bool → H → Prop},evT P F es σ h = some r → Q r.1 r.2 → wT P F es σ h Q
  | .nil,_,_,_,Q,e,q => sq2 (Q := Q) e q
  | .cons a as,_,_,_,Q,e,q => bo_e e fun _ _ e1 e => wE_c a e1 (bt_c e (fun e => wT_c as e q) fun e => sq2 (Q := Q) e q)
mutual
theorem wS_c : ∀ (s : MS) {σ : Sig} {h : H} {r : Fl × Sig × H} {Q : KS},ex P F s σ h = some r → Q r.1 r.2.1 r.2.2 → wS P F s σ h Q
  | .bad,_,_,_,_,e,_ => nomatch e
  | .assign i a,_,_,_,Q,e,q => bo_e e fun _ _ e1 e => if_e e fun hl e => wE_c a e1 ⟨Nat.ble_eq_true_of_le hl,sq3 (Q := Q) e q⟩
  | .unpack is a,_,_,_,Q,e,q => bo_e e fun _ _ e1 e => bq_e e fun _ e2 e => bq_e e fun _ e3 e => wE_c a e1 ⟨_,_,e2,e3,sq3 (Q := Q) e q⟩
  | .setattr o k a,_,_,_,Q,e,q => bo_e e fun _ _ e1 e => bo_e e fun _ _ e2 e => bq_e e fun _ e3 e => wE_c a e1 (wE_c o e2 ⟨_,e3,sq3 (Q := Q) e q⟩)
  | .setsub o i a,_,_,_,Q,e,q => bo_e e fun _ _ e1 e => bo_e e fun _ _ e2 e => bo_e e fun _ _ e3 e => bq_e e fun _ e4 e => wE_c a e1 (wE_c o e2 (wE_c i e3 ⟨_,e4,sq3 (Q := Q) e q⟩))
  | .aug i op a,_,_,_,Q,e,q => bq_e e fun _ e0 e => bo_e e fun _ _ e1 e => bo_e e fun _ _ e2 e => ⟨_,lookS_inv e0,wE_c a e1 (wAug_c e2 (sq3 (Q := Q) e q))⟩
  | .augattr o k op a,_,_,_,Q,e,q => bo_e e fun _ _ e1 e => bq_e e fun _ e2 e => bo_e e fun _ _ e3 e => bo_e e fun _ _ e4 e => bq_e e fun _ e5 e => wE_c o e1 ⟨_,e2,wE_c a e3 (wAug_c e4 ⟨_,e5,sq3 (Q := Q) e q⟩)⟩
  | .augsub o i op a,_,_,_,Q,e,q => bo_e e fun _ _ e1 e => bo_e e fun _ _ e2 e => bq_e e fun _ e3 e => bo_e e fun _ _ e4 e => bo_e e fun _ _ e5 e => bq_e e fun _ e6 e => wE_c o e1 (wE_c i e2 ⟨_,e3,wE_c a e4 (wAug_c e5 ⟨_,e6,sq3 (Q := Q) e q⟩)⟩)
  | .ite t a b,_,_,_,Q,e,q => bo_e e fun _ _ e1 e => wE_c t e1 (bt_c e (fun e => wSs_c a e q) fun e => wSs_c b e q)
  | .while t b,_,_,_,Q,e,q => ⟨_,_,_,e,q⟩
  | .for i it b,_,_,_,Q,e,q => bo_e e fun _ _ e1 e => wI_c it e1 ⟨_,_,_,e,q⟩
  | .forT is it b,_,_,_,Q,e,q => bo_e e fun _ _ e1 e => wI_c it e1 ⟨_,_,_,e,q⟩
  | .ret a,_,_,_,Q,e,q => bo_e e fun _ _ e1 e => wE_c a e1 (sq3 (Q := Q) e q)
  | .brk,_,_,_,Q,e,q => sq3 (Q := Q) e q
  | .cont,_,_,_,Q,e,q => sq3 (Q := Q) e q
  | .expr a,_,_,_,Q,e,q => bo_e e fun _ _ e1 e => bN_e e fun z e => wE_c a e1 ⟨z,sq3 (Q := Q) e q⟩
theorem wSs_c : ∀ (ss : MSs) {σ : Sig} {h : H} {r : Fl × Sig × H} {Q : KS},exs P F ss σ h = some r → Q r.1 r.2.1 r.2.2 → wSs P F ss σ h Q
  | .nil,_,_,_,Q,e,q => sq3 (Q := Q) e q
  | .cons s ss,_,_,_,Q,e,q => (exs_inv e).elim (fun ⟨_,_,e1,e⟩ => wS_c s e1 (wSs_c ss e q)) fun ⟨e1,hn⟩ => wS_c s e1 (kSeq_c hn q)
end
end
end Mine
namespace Mine
open PySem PySem.W PySem.Calls PyProof.Rows
section
variable (G : Gp) (h₀ : Heap) (I : List Addr) (s : Shared)
noncomputable def KE (K : KV) (Q : Value → Shared → Prop) : Prop := ∀ (I1 : List Addr) (s1 : Shared) (v : V) (h1 : H) (v' : Value),Ext NoP I s I1 s1 → Rel G h₀ I1 h1 s1 → VR I1 v v' → K v h1 → Q v' s1
noncomputable def KT (P : Par) (K : KV) (Q : Bool → Shared → Prop) : Prop := ∀ (v : V) (h1 : H),K v h1 → BooQ (truthy P.C h1 v) fun b => ∀ (I1 : List Addr) (s1 : Shared),Ext NoP I s I1 s1 → Rel G h₀ I1 h1 s1 → Q b s1
noncomputable def KL (K : List V → H → Prop) (Q : List Value → Shared → Prop) : Prop := ∀ (I1 : List Addr) (s1 : Shared) (vs : List V) (h1 : H) (ws : List Value),Ext NoP I s I1 s1 → Rel G h₀ I1 h1 s1 → LR I1 vs ws → K vs h1 → Q ws s1
end
section
variable {G : Gp} {h₀ : Heap} {I I1 : List Addr} {s s1 s2 : Shared} {h' : H} {v : V} {r : Value} {K : KV} {Q : Value → Shared → Prop} {T : Bool → Shared → Prop} {P : Par}
theorem Pv.after (X : Ext NoP I s I1 s1) (p : Pv G h₀ I1 s1 h' v r s2) : Pv G h₀ I s h' v r s2 := let ⟨I2,X2,R,q⟩ := p; ⟨I2,X.trans X2,R,q⟩
theorem KE.go (hq : KE G h₀ I s K Q) (X : Ext NoP I s I1 s1) : KE G h₀ I1 s1 K Q := fun I2 s2 v h v' X2 R q k => hq I2 s2 v h v' (X.trans X2) R q k
theorem KE.pv (hq : KE G h₀ I s K Q) (X : Ext NoP I s I1 s1) (k : K v h') (v' : Value) (s2 : Shared) (p : Pv G h₀ I1 s1 h' v v' s2) : Q v' s2 := let ⟨I2,X2,R,q⟩ := p; hq I2 s2 v h' v' (X.trans X2) R q k
theorem KT.go (hq : KT G h₀ I s P K T) (X : Ext NoP I s I1 s1) : KT G h₀ I1 s1 P K T := fun v h k => let ⟨b,e,q⟩ := hq v h k; ⟨b,e,fun I2 s2 X2 R => q I2 s2 (X.trans X2) R⟩
theorem KL.go {K : List V → H → Prop} {Q : List Value → Shared → Prop} (hq : KL G h₀ I s K Q) (X : Ext NoP I s I1 s1) : KL G h₀ I1 s1 K Q := fun I2 s2 v h v' X2 R q k => hq I2 s2 v h v' (X.trans X2) R q k
end
theorem VR.int' {I : List Addr} (i : Int) (t : Tok) : VR I (.int i) (.int i t) := ⟨t,rfl⟩
structure Bd (prog : Program) (w : World) (A : Around) (G : Gp) (X : Gx) (P : Par) (W : Wd) (h₀ : Heap) (F : Call) : Prop where
  con : ConOk G P h₀
  g : h₀.Ns W.gl W.mg
  b : h₀.Ns W.bl W.mb
  const : ∀ x k,constIn x X.consts = some k → ∃ t,W.mg x = some (.int k t)
  tab : ∀ x k,idxOf? x X.tabs = some k → ∃ v,W.mg x = some v ∧ VR [] (P.tabs k) v
  fn : ∀ x i,idxOf? x X.fns = some i → 5 ≤ i → W.mg x = some (.ref (W.fa i))
  cls : ∀ x c,idxOf? x X.cls = some c → W.mg x = some (.ref (G.cls c))
  bi : ∀ x k,idxOf? x bis = some k → W.mg x = none ∧ W.mb x = some (biFn k)
  rng : W.mg "range" = none ∧ W.mb "range" = some (.type "range")
  an : ∀ x k,idxOf? x X.attrs = some k → G.an k = x ∧ k < G.na
  hh : A.handled = none
  hu : A.units + 64 < cLine
  keepF : ∀ x i,idxOf? x X.fns = some i → 5 ≤ i → ∃ o fd,h₀.get? (W.fa i) = some o ∧ o.data = .func fd
  okC : ∀ x c,idxOf? x X.cls = some c → G.okc c = true ∨ ∀ vs h,F (P.inits c) vs h = none
  keepC : ∀ c (hp : Heap),G.okc c = true → (∀ b o,h₀.get? b = some o → hp.get? b = some o) → Looks (model prog w) hp (keeperOf (.ref (G.cls c))) .machine
  callF : ∀ f vs (h : H) v h',F f vs h = some (v,h') → ∀ I s ws,Rel G h₀ I h s → LR I vs ws → ∀ Q E,(∀ v' s',Pv G h₀ I s h' v v' s' → Q v' s') → wpAny (model prog w) A (call (.ref (W.fa f)) ws) Q E s
  newC : ∀ (c : Nat) (vs : List V) (h h' : H),G.okc c = true → F (P.inits c) (V.ref h.length :: vs) (h ++ [.inst c (h.length + 1),.dct []]) = some (.none,h') → ∀ I s ws,Rel G h₀ I h s → LR I vs ws → ∀ Q E,(∀ v' s',Pv G h₀ I s h' (.ref h.length) v' s' → Q v' s') →
    wpAny (model prog w) A (call (.ref (G.cls c)) ws) Q E s
  getA : ∀ (h : H) v k x,getAttr h v k = some x → k < G.na → ∀ I s v',Rel G h₀ I h s → VR I v v' → ∀ Q E,(∀ r s',Pv G h₀ I s h x r s' → Q r s') → wpAny (model prog w) A (PySem.getAttr v' (G.an k) true) Q E s
  setA : ∀ (h h' : H) v k x,setAttr h v k x = some h' → k < G.na → ∀ Γ env σ I s v' x',FrameR W Γ env σ I h₀ s → Rel G h₀ I h s → VR I v v' → VR I x x' → ∀ Q E,
    (∀ s',Ext (Own env) I s I s' → Rel G h₀ I h' s' → FrameR W Γ env σ I h₀ s' → Q () s') → wpAny (model prog w) A (PySem.setAttr v' (G.an k) x') Q E s
section
variable {prog : Program} {w : World} {A : Around} {G : Gp} {X : Gx} {P : Par} {W : Wd} {h₀ : Heap} {F : Call}
noncomputable def SndE (prog : Program) (w : World) (A : Around) (G : Gp) (X : Gx) (P : Par) (W : Wd) (h₀ : Heap) (F : Call) (e : PySem.Expr) : Prop :=
  ∀ (Γ : Cx) (env : Env) (σ : Sig) (I : List Addr) (h : H) (s : Shared) (K : KV) (Q E : Value → Shared → Prop),FrameR W Γ env σ I h₀ s → Rel G h₀ I h s → wE P F (trE X Γ e) σ h K → KE G h₀ I s K Q → wpAny (model prog w) A (eval e env) Q E s
noncomputable def SndT (prog : Program) (w : World) (A : Around) (G : Gp) (X : Gx) (P : Par) (W : Wd) (h₀ : Heap) (F : Call) (e : PySem.Expr) : Prop :=
  ∀ (Γ : Cx) (env : Env) (σ : Sig) (I : List Addr) (h : H) (s : Shared) (K : KV) (Q : Bool → Shared → Prop) (E : Value → Shared → Prop),FrameR W Γ env σ I h₀ s → Rel G h₀ I h s → wE P F (trE X Γ e) σ h K → KT G h₀ I s P K Q → wpAny (model prog w) A (isTrue e env (eval e env)) Q E s
noncomputable def SndEs (prog : Program) (w : World) (A : Around) (G : Gp) (X : Gx) (P : Par) (W : Wd) (h₀ : Heap) (F : Call) (es : List PySem.Expr) : Prop :=
  ∀ (Γ : Cx) (env : Env) (σ : Sig) (I : List Addr) (h : H) (s : Shared) (pos : Pos) (K : List V → H → Prop) (Q : List Value → Shared → Prop) (E : Value → Shared → Prop),FrameR W Γ env σ I h₀ s → Rel G h₀ I h s → wEs P F (trEs X Γ es) σ h K → KL G h₀ I s K Q →
    wpAny (model prog w) A (spliced (backTo pos (starEach es env))) Q E s
theorem ConOk.truthy (C : ConOk G P h₀) {I : List Addr} {h : H} {s : Shared} (R : Rel G h₀ I h s) {v : V} {v' : Value} {b : Bool} (hv : VR I v v') (e : truthy P.C h v = some b)
    {Q : Bool → Shared → Prop} {E : Value → Shared → Prop} (hq : ∀ s',Ext NoP I s I s' → Rel G h₀ I h s' → Q b s') : wpAny (model prog w) A (PySem.truthy v') Q E s :=
  truthy_sound C R hv e fun tk => hq _ (Ext.refl.tok tk) (R.tok tk)
theorem gME_w {c : Bool} {m : ME} {σ : Sig} {h : H} {K : KV} (w : wE P F (gME c m) σ h K) : c = true ∧ wE P F m σ h K := by
  cases c with
  | true => exact ⟨rfl,w⟩
  | false => exact w.elim
theorem oME_w {α : Type} {x : Option α} {f : α → ME} {σ : Sig} {h : H} {K : KV} {Z : Prop} (w : wE P F (oME x f) σ h K) (k : ∀ a,x = some a → wE P F (f a) σ h K → Z) : Z := by
  cases x with
  | some a => exact k a rfl w
  | none => exact w.elim
theorem pME_w {α : Type} {x : Option α} {f : α → ME} {m : ME} {σ : Sig} {h : H} {K : KV} {Z : Prop} (w : wE P F (pME x f m) σ h K) (k1 : ∀ a,x = some a → wE P F (f a) σ h K → Z) (k2 : x = none → wE P F m σ h K → Z) : Z := by
  cases x with
  | some a => exact k1 a rfl w
  | none => exact k2 rfl w
theorem sndT_value (B : Bd prog w A G X P W h₀ F) {e : PySem.Expr} (he : ∀ env whole,isTrue e env whole = (do let v ← whole; standAt e.pos; holding [v] (PySem.truthy v)))
    (x : SndE prog w A G X P W h₀ F e) : SndT prog w A G X P W h₀ F e := fun Γ env σ I h s K Q E f R w hq =>
  wpAny_isTrue_value (x Γ env σ I h s K _ _ f R w fun I1 s1 v h1 v' X1 R1 q k => let ⟨_,e2,hq⟩ := hq v h1 k; B.con.truthy R1 q e2 fun s2 X2 R2 => hq I1 s2 (X1.trans X2) R2) (he env _)
theorem snd_const {c k pos} : SndE prog w A G X P W h₀ F (.Constant c k pos) := fun Γ env σ I h s K Q E f R w hq => by
  cases c with
  | none => exact wpAny_Constant_none (hq _ _ .none _ _ .refl R rfl w)
  | bool b => exact wpAny_Constant_bool (hq _ _ (.bool b) _ _ .refl R rfl w)
  | int i => exact wpAny_Constant_int (hq.pv .refl w _ _ (pv_same R ⟨_,rfl⟩))
  | _ => exact w.elim
theorem dbg {x : Str} (h : (!sEq x "__debug__") = true) : (x == ("__debug__" : Str)) = false := by
  rw [sEq_beq,Bool.not_eq_true'] at h; exact h
theorem snd_slot {Γ : Cx} {x : Str} {k : NameKind} {env : Env} {σ : Sig} {I : List Addr} {h : H} {s : Shared} {K : KV} {Q E : Value → Shared → Prop} {pos : Pos} (f : FrameR W Γ env σ I h₀ s) (R : Rel G h₀ I h s) (hq : KE G h₀ I s K Q) (hd : (x == ("__debug__" : Str)) = false)
    (hk : kindIn x Γ.names = some k) (hl : k = .local ∨ k = .cell) (w' : wE P F (oME (idxOf? x Γ.ns) .var) σ h K) : wpAny (model prog w) A (eval (.Name x pos) env) Q E s :=
  oME_w w' fun i hi ⟨v,e,k⟩ => wpAny_Name (load_slot f (slot_of hk hl hi) e fun v' r => hq _ _ _ _ _ .refl R r k) hd
theorem snd_name (B : Bd prog w A G X P W h₀ F) {x pos} : SndE prog w A G X P W h₀ F (.Name x pos) := fun Γ env σ I h s K Q E f R w' hq => by
  have hd := dbg (gME_w w').1
  refine oME_w (gME_w w').2 fun k hk w' => ?_
  cases k with
  | «local» => exact snd_slot f R hq hd hk (.inl rfl) w'
  | cell => exact snd_slot f R hq hd hk (.inr rfl) w'
  | globalImplicit =>
    have hkk := (f.kindOf x).trans hk
    have hg : s.heap.Ns env.globals W.mg := by rw [f.gl]; exact B.g.keeps R.stays
    exact pME_w w' (fun k hc w' => let ⟨t,hm⟩ := B.const x k hc; Name_function_global f.kind hkk (loadGlobal_global hg hm (hq _ _ (.int k) _ _ .refl R ⟨t,rfl⟩ w')) hd) fun _ w' =>
      oME_w w' fun k hc w' => let ⟨u,hm,hr⟩ := B.tab x k hc; Name_function_global f.kind hkk (loadGlobal_global hg hm (hq _ _ (P.tabs k) _ _ .refl R (hr.mono List.nil_prefix) w')) hd
  | _ => exact w'.elim
theorem snd_bin (B : Bd prog w A G X P W h₀ F) {l op r pos} (hl : SndE prog w A G X P W h₀ F l) (hr : SndE prog w A G X P W h₀ F r) : SndE prog w A G X P W h₀ F (.BinOp l op r pos) := fun Γ env σ I h s K Q E f R w hq =>
  wpAny_BinOp (hl Γ env σ I h s _ _ _ f R w fun I1 s1 x h1 x' X1 R1 v1 w => hr Γ env σ I1 h1 s1 _ _ _ (f.ext0 X1) R1 w fun I2 s2 y h2 y' X2 R2 v2 w =>
    let ⟨_,_,e,k⟩ := wBin_sound w; binV_sound B.con R2 (v1.mono X2.pre) v2 e (hq.pv (X1.trans X2) k))
theorem snd_un (B : Bd prog w A G X P W h₀ F) {op x pos} (hx : SndE prog w A G X P W h₀ F x) : SndE prog w A G X P W h₀ F (.UnaryOp op x pos) := fun Γ env σ I h s K Q E f R w hq => by
  cases op with
  | USub => exact wpAny_UnaryOp (hx Γ env σ I h s _ _ _ f R w fun I1 s1 v h1 x' X1 R1 v1 ⟨i,e,k⟩ => by subst e; obtain ⟨t,rfl⟩ := v1; exact neg_int (hq.pv X1 k _ _ (pv_same R1 (VR.int' _ _))))
  | Invert => exact wpAny_UnaryOp (hx Γ env σ I h s _ _ _ f R w fun I1 s1 v h1 x' X1 R1 v1 ⟨i,e,k⟩ => by subst e; obtain ⟨t,rfl⟩ := v1; exact invert_int (hq.pv X1 k _ _ (pv_same R1 (VR.int' _ _))))
  | Not => exact wpAny_UnaryOp (hx Γ env σ I h s _ _ _ f R w fun I1 s1 v h1 x' X1 R1 v1 ⟨b,e,k⟩ => not_value (B.con.truthy R1 v1 e fun s2 X2 R2 => hq _ _ (.bool !b) _ _ (X1.trans X2) R2 rfl k))
  | UAdd => exact w.elim
theorem snd_not_t {x pos} (hx : SndT prog w A G X P W h₀ F x) : SndT prog w A G X P W h₀ F (.UnaryOp .Not x pos) := fun Γ env σ I h s K Q E f R w hq =>
  wpAny_isTrue_Not (hx Γ env σ I h s _ _ _ f R w fun v h1 ⟨b,e,k⟩ => ⟨b,e,fun I1 s1 X1 R1 => let ⟨_,e',q⟩ := hq _ _ k; by cases e'; exact q I1 s1 X1 R1⟩)
theorem kT_ite {K : KV} {Z : Bool → Shared → Prop} {I : List Addr} {s : Shared} {wa wb : H → Prop} (hK : ∀ v h1,K v h1 → wTruth P h1 v (wa h1) (wb h1)) (ha : ∀ I1 s1 h1,Ext NoP I s I1 s1 → Rel G h₀ I1 h1 s1 → wa h1 → Z true s1) (hb : ∀ I1 s1 h1,Ext NoP I s I1 s1 → Rel G h₀ I1 h1 s1 → wb h1 → Z false s1) : KT G h₀ I s P K Z := fun v h1 k =>
  let ⟨b,e,t⟩ := wTruth_sound (hK v h1 k); ⟨b,e,fun I1 s1 X1 R1 => by
    cases b with
    | true => exact ha I1 s1 h1 X1 R1 (t.t rfl)
    | false => exact hb I1 s1 h1 X1 R1 (t.f rfl)⟩
theorem snd_ite {t a b pos} (ht : SndT prog w A G X P W h₀ F t) (ha : SndE prog w A G X P W h₀ F a) (hb : SndE prog w A G X P W h₀ F b) : SndE prog w A G X P W h₀ F (.IfExp t a b pos) := fun Γ env σ I h s K Q E f R w hq =>
  wpAny_IfExp (ht Γ env σ I h s _ _ _ f R w (kT_ite (fun _ _ k => k) (fun I1 s1 h1 X1 R1 w => ha Γ env σ I1 h1 s1 _ _ _ (f.ext0 X1) R1 w (hq.go X1)) fun I1 s1 h1 X1 R1 w => hb Γ env σ I1 h1 s1 _ _ _ (f.ext0 X1) R1 w (hq.go X1)))
theorem snd_ite_t {t a b pos} (ht : SndT prog w A G X P W h₀ F t) (ha : SndT prog w A G X P W h₀ F a) (hb : SndT prog w A G X P W h₀ F b) : SndT prog w A G X P W h₀ F (.IfExp t a b pos) := fun Γ env σ I h s K Q E f R w hq => by
  rw [arm_isTrue_IfExp]
  exact wpAny_bind (ht Γ env σ I h s _ _ _ f R w (kT_ite (fun _ _ k => k) (fun I1 s1 h1 X1 R1 w => ha Γ env σ I1 h1 s1 _ _ _ (f.ext0 X1) R1 w (hq.go X1)) fun I1 s1 h1 X1 R1 w => hb Γ env σ I1 h1 s1 _ _ _ (f.ext0 X1) R1 w (hq.go X1)))
end
section
variable {prog : Program} {w : World} {A : Around} {G : Gp} {X : Gx} {P : Par} {W : Wd} {h₀ : Heap} {F : Call}
theorem snd_bool (B : Bd prog w A G X P W h₀ F) {op : BoolOp} {pos : Pos} : ∀ (es : List PySem.Expr),(∀ e ∈ es,SndE prog w A G X P W h₀ F e) →
    ∀ (Γ : Cx) (env : Env) (σ : Sig) (I : List Addr) (h : H) (s : Shared) (K : KV) (Q E : Value → Shared → Prop),FrameR W Γ env σ I h₀ s → Rel G h₀ I h s → wE P F (boolN op (trEs X Γ es)) σ h K → KE G h₀ I s K Q → wpAny (model prog w) A (boolOp pos op (evalEach es env)) Q E s
  | [],_,Γ,env,σ,I,h,s,K,Q,E,f,R,w',hq => w'.elim
  | [x],hx,Γ,env,σ,I,h,s,K,Q,E,f,R,w',hq => hx x List.mem_cons_self Γ env σ I h s K Q E f R w' hq
  | x :: y :: r,hx,Γ,env,σ,I,h,s,K,Q,E,f,R,w',hq => by
    have ih := snd_bool B (op := op) (pos := pos) (y :: r) fun z hz => hx z (List.mem_cons_of_mem _ hz)
    show wpAny (model prog w) A (do
      let v ← eval x env
      standAt pos
      let t ← holding [v] (PySem.truthy v)
      match op,t with
      | .And,false | .Or,true => pure v
      | _,_ => boolOp pos op (evalEach (y :: r) env)) Q E s
    cases op with
    | And =>
      refine wpAny_bind (hx x List.mem_cons_self Γ env σ I h s _ _ _ f R w' fun I1 s1 v h1 v' X1 R1 q1 k => wpAny_bind (wpAny_standAt (wpAny_bind (wpAny_holding ?_))))
      obtain ⟨b,e2,t⟩ := wTruth_sound k
      cases b with
      | true => exact B.con.truthy R1 q1 e2 fun s2 X2 R2 => ih Γ env σ I1 h1 s2 K Q E ((f.ext0 X1).ext0 X2) R2 (t.t rfl) (hq.go (X1.trans X2))
      | false => exact B.con.truthy R1 q1 e2 fun s2 X2 R2 => wpAny_pure (hq I1 s2 v h1 v' (X1.trans X2) R2 q1 (t.f rfl))
    | Or =>
      refine wpAny_bind (hx x List.mem_cons_self Γ env σ I h s _ _ _ f R w' fun I1 s1 v h1 v' X1 R1 q1 k => wpAny_bind (wpAny_standAt (wpAny_bind (wpAny_holding ?_))))
      obtain ⟨b,e2,t⟩ := wTruth_sound k
      cases b with
      | true => exact B.con.truthy R1 q1 e2 fun s2 X2 R2 => wpAny_pure (hq I1 s2 v h1 v' (X1.trans X2) R2 q1 (t.t rfl))
      | false => exact B.con.truthy R1 q1 e2 fun s2 X2 R2 => ih Γ env σ I1 h1 s2 K Q E ((f.ext0 X1).ext0 X2) R2 (t.f rfl) (hq.go (X1.trans X2))
theorem kT_chain {K : KV} {T Z : Bool → Shared → Prop} {I : List Addr} {s : Shared} {wr : H → Prop} {K1 : KV} (c : Bool) (hK : ∀ v h1,K1 v h1 → wTruth P h1 v (bif c then wr h1 else K v h1) (bif c then K v h1 else wr h1)) (hq : KT G h₀ I s P K T)
    (ha : ∀ I1 s1 h1,Ext NoP I s I1 s1 → Rel G h₀ I1 h1 s1 → wr h1 → Z c s1) (hb : ∀ s1,T (!c) s1 → Z (!c) s1) : KT G h₀ I s P K1 Z := fun v h1 k => by
  obtain ⟨b,e,t⟩ := wTruth_sound (hK v h1 k)
  refine ⟨b,e,fun I1 s1 X1 R1 => ?_⟩
  have last : b = !c → K v h1 → Z b s1 := fun hb' k => by
    obtain ⟨b',e',q⟩ := hq v h1 k
    rw [e] at e'; cases e'; subst hb'
    exact hb _ (q I1 s1 X1 R1)
  cases b with
  | true => cases c with
    | true => exact ha I1 s1 h1 X1 R1 (t.t rfl)
    | false => exact last rfl (t.t rfl)
  | false => cases c with
    | true => exact last rfl (t.f rfl)
    | false => exact ha I1 s1 h1 X1 R1 (t.f rfl)
theorem KT.to {K : KV} {T Z : Bool → Shared → Prop} {I : List Addr} {s : Shared} (hq : KT G h₀ I s P K T) (k : ∀ b s1,T b s1 → Z b s1) : KT G h₀ I s P K Z := fun v h1 kk => let ⟨b,e,q⟩ := hq v h1 kk; ⟨b,e,fun I1 s1 X1 R1 => k b s1 (q I1 s1 X1 R1)⟩
theorem snd_bool_t {op : BoolOp} : ∀ (es : List PySem.Expr),(∀ e ∈ es,SndT prog w A G X P W h₀ F e) →
    ∀ (Γ : Cx) (env : Env) (σ : Sig) (I : List Addr) (h : H) (s : Shared) (K : KV) (Q : Bool → Shared → Prop) (E : Value → Shared → Prop),FrameR W Γ env σ I h₀ s → Rel G h₀ I h s → wE P F (boolN op (trEs X Γ es)) σ h K → KT G h₀ I s P K Q → wpAny (model prog w) A (allTrue op es env) Q E s
  | [],_,Γ,env,σ,I,h,s,K,Q,E,f,R,w',hq => w'.elim
  | [x],hx,Γ,env,σ,I,h,s,K,Q,E,f,R,w',hq => by
    cases op with
    | And => exact wpAny_allTrue_And_cons (hx x List.mem_cons_self Γ env σ I h s K _ _ f R w' (hq.to fun b s1 q => by
        cases b
        · exact q
        · exact wpAny_allTrue_And_nil q))
    | Or => exact wpAny_allTrue_Or_cons (hx x List.mem_cons_self Γ env σ I h s K _ _ f R w' (hq.to fun b s1 q => by
        cases b
        · exact wpAny_allTrue_Or_nil q
        · exact q))
  | x :: y :: r,hx,Γ,env,σ,I,h,s,K,Q,E,f,R,w',hq => by
    have ih := fun I1 s1 h1 X1 R1 w' => snd_bool_t (op := op) (y :: r) (fun z hz => hx z (List.mem_cons_of_mem _ hz)) Γ env σ I1 h1 s1 K Q E (f.ext0 X1) R1 w' (hq.go X1)
    cases op with
    | And => exact wpAny_allTrue_And_cons (hx x List.mem_cons_self Γ env σ I h s _ _ _ f R w' (kT_chain true (fun _ _ k => k) hq ih fun _ q => q))
    | Or => exact wpAny_allTrue_Or_cons (hx x List.mem_cons_self Γ env σ I h s _ _ _ f R w' (kT_chain false (fun _ _ k => k) hq ih fun _ q => q))
theorem marks_off {Γ : Cx} {op : CmpOp} {e : PySem.Expr} {σ : Sig} {h : H} {K : KV} (q : wE P F (trE X Γ e) σ h K) : behindInMarks op e = false := by
  cases e <;> first | rfl | exact q.elim
theorem snd_cmp1 (B : Bd prog w A G X P W h₀ F) {l op r pos} (hl : SndE prog w A G X P W h₀ F l) (hr : SndE prog w A G X P W h₀ F r) : SndE prog w A G X P W h₀ F (.Compare l [op] [r] pos) := fun Γ env σ I h s K Q E f R w' hq =>
  wpAny_Compare1 (hl Γ env σ I h s _ _ _ f R w' fun I1 s1 x h1 x' X1 R1 v1 w' => hr Γ env σ I1 h1 s1 _ _ _ (f.ext0 X1) R1 w' fun I2 s2 y h2 y' X2 R2 v2 w' =>
    let ⟨b,e3,k⟩ := wCmp_sound w'; cmpV_sound B.con R2 B.hu (v1.mono X2.pre) v2 e3 (hq I2 _ (.bool b) h2 _ (X1.trans X2) R2 rfl k)) (let ⟨_,_,_,w2⟩ := wE_sound (trE X Γ l) w'; marks_off w2)
theorem snd_cmp1_t (B : Bd prog w A G X P W h₀ F) {l op r pos} (hl : SndE prog w A G X P W h₀ F l) (hr : SndE prog w A G X P W h₀ F r) : SndT prog w A G X P W h₀ F (.Compare l [op] [r] pos) := fun Γ env σ I h s K Q E f R w' hq =>
  wpAny_isTrue_Compare1 (hl Γ env σ I h s _ _ _ f R w' fun I1 s1 x h1 x' X1 R1 v1 w' => hr Γ env σ I1 h1 s1 _ _ _ (f.ext0 X1) R1 w' fun I2 s2 y h2 y' X2 R2 v2 w' =>
    let ⟨b,e3,k⟩ := wCmp_sound w'; cmpV_sound B.con R2 B.hu (v1.mono X2.pre) v2 e3 (wpAny_truthy_bool (let ⟨_,e',q⟩ := hq (.bool b) h2 k; by cases e'; exact q I2 _ (X1.trans X2) R2))) (let ⟨_,_,_,w2⟩ := wE_sound (trE X Γ l) w'; marks_off w2)
theorem last_off {op1 op2 : CmpOp} {m r : PySem.Expr} (h : (![m,r].any isSetE) = true) : lastMarks [op1,op2] [m,r] = false := by
  have hr : isSetE r = false := by
    cases hr : isSetE r with
    | false => rfl
    | true =>
      have : (![m,r].any isSetE) = (!(isSetE m || (isSetE r || false))) := rfl
      rw [this,hr,Bool.true_or,Bool.or_true] at h; exact ff h
  cases r <;> first | rfl | cases hr
theorem snd_cmp2 (B : Bd prog w A G X P W h₀ F) {l op1 op2 m r pos} (hl : SndE prog w A G X P W h₀ F l) (hm : SndE prog w A G X P W h₀ F m) (hr : SndE prog w A G X P W h₀ F r) : SndE prog w A G X P W h₀ F (.Compare l [op1,op2] [m,r] pos) := fun Γ env σ I h s K Q E f R w' hq => by
  have w0 := gME_w w'
  refine Compare_chain (hl Γ env σ I h s _ _ _ f R w0.2 fun I1 s1 x h1 x' X1 R1 v1 w' => chain_link (hm Γ env σ I1 h1 s1 _ _ _ (f.ext0 X1) R1 w' fun I2 s2 y h2 y' X2 R2 v2 w' => ?_)) (last_off w0.1)
  obtain ⟨b,e3,t⟩ := wCmp_sound w'
  refine cmpV_sound B.con R2 B.hu (v1.mono X2.pre) v2 e3 (wpAny_truthy_bool ?_)
  cases b with
  | true => exact chain_last (hr Γ env σ I2 h2 _ _ _ _ ((f.ext0 X1).ext0 X2) R2 (t.t rfl) fun I3 s3 z h3 z' X3 R3 v3 w' => let ⟨b,e5,k⟩ := wCmp_sound w'; cmpV_sound B.con R3 B.hu (v2.mono X3.pre) v3 e5 (hq I3 _ (.bool b) h3 _ ((X1.trans X2).trans X3) R3 rfl k))
  | false => exact hq I2 _ (.bool false) h2 _ (X1.trans X2) R2 rfl (t.f rfl)
theorem snd_cmp2_t (B : Bd prog w A G X P W h₀ F) {l op1 op2 m r pos} (hl : SndE prog w A G X P W h₀ F l) (hm : SndE prog w A G X P W h₀ F m) (hr : SndE prog w A G X P W h₀ F r) : SndT prog w A G X P W h₀ F (.Compare l [op1,op2] [m,r] pos) := fun Γ env σ I h s K Q E f R w' hq => by
  have w0 := gME_w w'
  refine isTrue_chain (hl Γ env σ I h s _ _ _ f R w0.2 fun I1 s1 x h1 x' X1 R1 v1 w' => test_link (hm Γ env σ I1 h1 s1 _ _ _ (f.ext0 X1) R1 w' fun I2 s2 y h2 y' X2 R2 v2 w' => ?_)) (last_off w0.1)
  obtain ⟨b,e3,t⟩ := wCmp_sound w'
  refine cmpV_sound B.con R2 B.hu (v1.mono X2.pre) v2 e3 (wpAny_truthy_bool ?_)
  cases b with
  | true => exact test_last (hr Γ env σ I2 h2 _ _ _ _ ((f.ext0 X1).ext0 X2) R2 (t.t rfl) fun I3 s3 z h3 z' X3 R3 v3 w' => let ⟨b,e5,k⟩ := wCmp_sound w'; cmpV_sound B.con R3 B.hu (v2.mono X3.pre) v3 e5 (wpAny_truthy_bool (let ⟨_,e',q⟩ := hq (.bool b) h3 k; by cases e'; exact q I3 _ ((X1.trans X2).trans X3) R3)))
  | false => exact let ⟨_,e',q⟩ := hq (.bool false) h2 (t.f rfl); by cases e'; exact q I2 _ (X1.trans X2) R2
theorem sndEs_nil : SndEs prog w A G X P W h₀ F [] := fun Γ env σ I h s pos K Q E f R w' hq => wpAny_items_nil (hq _ _ _ _ _ .refl R .nil w')
theorem star_off {Γ : Cx} {e : PySem.Expr} {rest : List PySem.Expr} {env : Env} {σ : Sig} {h : H} {K : KV} (q : wE P F (trE X Γ e) σ h K) : starEach (e :: rest) env = (false,eval e env) :: starEach rest env := by
  cases e <;> first | rfl | exact q.elim
theorem sndEs_cons {x : PySem.Expr} {r : List PySem.Expr} (hx : SndE prog w A G X P W h₀ F x) (hr : SndEs prog w A G X P W h₀ F r) : SndEs prog w A G X P W h₀ F (x :: r) := fun Γ env σ I h s pos K Q E f R w' hq =>
  wpAny_items_cons (hx Γ env σ I h s _ _ _ f R w' fun I1 s1 v h1 v' X1 R1 v1 w' => hr Γ env σ I1 h1 s1 pos _ _ _ (f.ext0 X1) R1 w' fun I2 s2 vs h2 ws X2 R2 l2 k => hq I2 s2 _ h2 _ (X1.trans X2) R2 (.cons (v1.mono X2.pre) l2) k) (star_off w')
theorem snd_list {es pos} (hx : SndEs prog w A G X P W h₀ F es) : SndE prog w A G X P W h₀ F (.List es pos) := fun Γ env σ I h s K Q E f R w' hq =>
  wpAny_List (hx Γ env σ I h s _ _ _ _ f R w' fun I1 s1 vs h1 ws X1 R1 l1 k => ⟨size_line (by rw [← l1.1]; exact Nat.le_of_ble_eq_true k.e),hq.pv X1 k.q _ _ (pv_new (tk := s1.toks) R1 rfl ⟨_,_,rfl,l1⟩)⟩)
theorem snd_tuple {es k pos} (hx : SndEs prog w A G X P W h₀ F es) : SndE prog w A G X P W h₀ F (.Tuple es k pos) := fun Γ env σ I h s K Q E f R w' hq =>
  wpAny_Tuple (hx Γ env σ I h s _ _ _ _ f R w' fun I1 s1 vs h1 ws X1 R1 l1 k => ⟨size_line (by rw [← l1.1]; exact Nat.le_of_ble_eq_true k.e),hq.pv X1 k.q _ _ (pv_new (tk := s1.toks) R1 rfl ⟨_,_,rfl,l1⟩)⟩)
end
section
variable {prog : Program} {w : World} {A : Around} {G : Gp} {X : Gx} {P : Par} {W : Wd} {h₀ : Heap} {F : Call}
theorem plain_args {Γ : Cx} {env : Env} {pos : Pos} {σ : Sig} : ∀ {es : List PySem.Expr} {h : H} {K : List V → H → Prop},wEs P F (trEs X Γ es) σ h K → (backTo pos (starEach es env)).any (·.1) = false
  | [],_,_,_ => rfl
  | x :: r,h,_,w' => by
    rw [star_off w']
    obtain ⟨_,_,_,w2⟩ := wE_sound (trE X Γ x) w'
    show (false || (backTo pos (starEach r env)).any (·.1)) = false
    rw [plain_args w2]; rfl
theorem callW {es : List PySem.Expr} (hx : SndEs prog w A G X P W h₀ F es) {Γ : Cx} {env : Env} {σ : Sig} {I : List Addr} {h : H} {s : Shared} {K : List V → H → Prop} {pos : Pos} {g : Value} {first : List Value}
    (f : FrameR W Γ env σ I h₀ s) (R : Rel G h₀ I h s) (w' : wEs P F (trEs X Γ es) σ h K)
    (hk : ∀ hp : Heap,(∀ b o,h₀.get? b = some o → hp.get? b = some o) → ∃ k,(k = Keeper.frame ∨ k = Keeper.machine ∨ k = Keeper.boundFrame) ∧ Looks (model prog w) hp (keeperOf g) k)
    {Q E : Value → Shared → Prop} (hc : KL G h₀ I s K fun ws s1 => wpAny (model prog w) A (call g (first ++ ws)) Q E s1) :
    wpAny (model prog w) A (callWith pos g first (backTo pos (starEach es env)) []) Q E s := by
  refine callWith_of (P := fun hp => ∀ b o,h₀.get? b = some o → hp.get? b = some o) (by rw [plain_args w']; rfl) hk ?_
  have key := hx Γ env σ I h s pos K (fun ws s1 => (∀ b o,h₀.get? b = some o → s1.heap.get? b = some o) ∧ wpAny (model prog w) A (call g (first ++ ws)) Q E s1) E f R w'
    fun I1 s1 vs h1 ws X1 R1 l k => ⟨R1.stays,hc I1 s1 vs h1 ws X1 R1 l k⟩
  cases es with
  | nil => exact PyProof.Rows.evalArgs_nil3 ⟨R.stays,hc _ _ _ _ [] .refl R .nil w'⟩
  | cons x r =>
    rw [star_off w'] at key ⊢
    exact evalArgs_plain key
theorem keeps_machine {M : Model} {hp : Heap} {g : Value} (hg : ∀ a,g ≠ .ref a) : ∃ k,(k = Keeper.frame ∨ k = Keeper.machine ∨ k = Keeper.boundFrame) ∧ Looks M hp (keeperOf g) k := by
  refine ⟨.machine,.inr (.inl rfl),?_⟩
  cases g <;> first | exact .now | exact absurd rfl (hg _)
theorem small_range {a b c : Int} (h : rangeOk a b c = true) : Builtin.Range.small a b c = true ∧ Builtin.Range.rangeSize a b c = ((rangeList a b c).length : Nat) ∧ (c = 1 ∨ c = -1) := by
  simp only [rangeOk,Bool.and_eq_true,decide_eq_true_eq,Bool.or_eq_true,beq_iff_eq] at h
  obtain ⟨⟨ha,hb⟩,hc⟩ := h
  refine ⟨?_,?_,hc⟩
  · rcases hc with rfl | rfl
    · exact small_one (by (first | lia | omega)) (by (first | lia | omega)) (by (first | lia | omega)) (by (first | lia | omega))
    · exact small_down (by (first | lia | omega)) (by (first | lia | omega)) (by (first | lia | omega)) (by (first | lia | omega))
  · unfold rangeList Builtin.Range.rangeSize
    rw [List.length_map,List.length_range]
    rcases hc with rfl | rfl
    · simp only [show (1 : Int) > 0 by decide,if_true,Int.ediv_one]
      split <;> (first | lia | omega)
    · simp only [show ¬ ((-1 : Int) > 0) by decide,if_false,Int.neg_neg,Int.ediv_one]
      split <;> (first | lia | omega)
theorem list_sound' (C : ConOk G P h₀) {I : List Addr} {h : H} {s : Shared} (R : Rel G h₀ I h s) (hh : A.handled = none) {vs : List V} {ws : List Value} {r : V} {h' : H} (hv : LR I vs ws) (e : biV P.C 4 vs h = some (r,h'))
    {Q E : Value → Shared → Prop} (hq : ∀ v' s',Pv G h₀ I s h' r v' s' → Q v' s') : wpAny (model prog w) A (call (.type "list") ws) Q E s := by
  obtain ⟨v,rfl,e⟩ := b1_inv e
  obtain ⟨a,b,c,e1,e⟩ := bR_inv e
  obtain ⟨u,rfl,hvu⟩ := one_of hv
  · obtain ⟨l,ob,rfl,g1,t1,t2,t3,rfl⟩ := obj_sound C R hvu e1
    obtain ⟨hc,e⟩ := if_inv e
    obtain ⟨rfl,rfl⟩ := two_inv e
    simp only [Bool.and_eq_true,decide_eq_true_eq] at hc
    obtain ⟨z1,z2,_⟩ := small_range hc.1
    have hlen : (rangeList a b c).length ≤ 1048576 := hc.2
    refine call_list_range hh g1 z1 z2 (by (first | lia | omega)) fun h' tk acc' c' k hg hacc => hq _ _ ?_
    have ex : ∃ us : List Value,acc' = us.toArray ∧ LR I ((rangeList a b c).map V.int) us := by
      refine ⟨acc'.toList,by simp,by rw [List.length_map,Array.length_toList]; exact hacc.1.symm,fun i x v p q => ?_⟩
      simp only [List.getElem?_map,Option.map_eq_some_iff] at p
      obtain ⟨n,hn,rfl⟩ := p
      obtain ⟨t,rfl⟩ := hacc.2 i v (by simpa using q)
      simp only [rangeList,List.getElem?_map,Option.map_eq_some_iff] at hn
      obtain ⟨j,hj,rfl⟩ := hn
      obtain ⟨hj1,hj2⟩ := List.getElem?_eq_some_iff.mp hj
      simp at hj2
      subst hj2
      exact ⟨t,rfl⟩
    obtain ⟨us,rfl,hl⟩ := ex
    obtain ⟨a1,b1⟩ := R.new (tk := tk) (o := .lst ((rangeList a b c).map V.int)) k get_none_of_size hg ⟨us,c',rfl,hl.mono (List.prefix_append _ _)⟩
    exact ⟨_,b1,a1,_,by rw [← R.len,List.getElem?_append_right (Nat.le_refl _),Nat.sub_self]; rfl,rfl⟩
theorem biV_sound (B : Bd prog w A G X P W h₀ F) {k : Nat} (hk : k < 5) {I : List Addr} {h : H} {s : Shared} (R : Rel G h₀ I h s) {vs : List V} {ws : List Value} {r : V} {h' : H} (hv : LR I vs ws) (e : biV P.C k vs h = some (r,h'))
    {Q E : Value → Shared → Prop} (hq : ∀ v' s',Pv G h₀ I s h' r v' s' → Q v' s') : wpAny (model prog w) A (call (biFn k) ws) Q E s := by
  match k,hk,e with
  | 0,_,e => exact len_sound B.con R hv e hq
  | 1,_,e => exact max_sound R B.hh hv e hq
  | 2,_,e => exact min_sound R B.hh hv e hq
  | 3,_,e => exact sum_sound B.con R B.hh hv e hq
  | 4,_,e => exact list_sound' B.con R B.hh hv e hq
theorem idx_lt {x : Str} : ∀ {l : List Str} {i : Nat},idxOf? x l = some i → i < l.length := fun e => (List.getElem?_eq_some_iff.mp (idxOf_get _ e)).1
theorem biFn_ne (k : Nat) (a : Addr) : biFn k ≠ .ref a := by
  match k with
  | 0 | 1 | 2 | 3 | k + 4 => nofun
theorem rng_new {I : List Addr} {h : H} {s : Shared} (R : Rel G h₀ I h s) {a b c : Int} {t u v : Tok} {tk : Tok} :
    Pv G h₀ I s (h ++ [.rng a b c]) (.ref h.length) (.ref s.heap.objs.size) { s with heap := s.heap.push { cls := .type "range",data := .fields #[.int a t,.int b u,.int c v] },toks := tk } :=
  pv_new R rfl ⟨t,u,v,rfl⟩
noncomputable def rngG (Z : H → Int → Int → Int → Prop) (vs : List V) (h : H) : Prop := match vs with
  | [x] => RngQ x (Z h)
  | [x,y] => F2 x y (Z h)
  | [x,y,z] => F3 x y z (Z h)
  | _ => False
theorem call_range {Z : H → Int → Int → Int → Prop} {I : List Addr} {vs : List V} {ws : List Value} {h : H} {s : Shared} {Q E : Value → Shared → Prop} (l : LR I vs ws) (k : rngG Z vs h)
    (hq : ∀ a b c t u v tk,rangeOk a b c = true → Z h a b c → Q (.ref s.heap.objs.size) { s with heap := s.heap.push { cls := .type "range",data := .fields #[.int a t,.int b u,.int c v] },toks := tk }) : wpAny (model prog w) A (call (.type "range") ws) Q E s := by
  match vs,k with
  | [x],⟨i,e,ok,q⟩ =>
    subst e
    obtain ⟨u,rfl,⟨t,rfl⟩⟩ := one_of l
    exact call_range_1 (hq _ _ _ _ _ _ _ ok q)
  | [x,y],⟨i,j,e1,e2,ok,q⟩ =>
    subst e1 e2
    obtain ⟨u,u2,rfl,⟨t,rfl⟩,⟨t2,rfl⟩⟩ := two_of l
    exact call_range_2 (hq _ _ _ _ _ _ _ ok q)
  | [x,y,z],⟨i,j,k,e1,e2,e3,ok,q⟩ =>
    subst e1 e2 e3
    have hc := (small_range ok).2.2
    match ws,l with
    | [u1,u2,u3],l =>
      obtain ⟨t1,rfl⟩ : VR I (.int i) u1 := l.2 0 _ _ rfl rfl
      obtain ⟨t2,rfl⟩ : VR I (.int j) u2 := l.2 1 _ _ rfl rfl
      obtain ⟨t3,rfl⟩ : VR I (.int k) u3 := l.2 2 _ _ rfl rfl
      refine call_range_3 (by (first | lia | omega)) (hq _ _ _ _ _ _ _ ok q) (.inl (PyProof.noPylong_of_log2 ?_))
      rcases hc with rfl | rfl <;> decide +kernel
    | [],l => cases l.1
    | [_],l => cases l.1
    | [_,_],l => cases l.1
    | _ :: _ :: _ :: _ :: _,l => cases l.1
theorem rng_w {Γ : Cx} {σ : Sig} {h : H} {K : KV} : ∀ {args : List PySem.Expr},wE P F (rngM (trEs X Γ args)) σ h K → wEs P F (trEs X Γ args) σ h (rngG (zR K))
  | [],w' => w'.elim
  | [_],w' => w'
  | [_,_],w' => w'
  | [_,_,_],w' => w'
  | _ :: _ :: _ :: _ :: _,w' => w'.elim
theorem snd_call (B : Bd prog w A G X P W h₀ F) {n : Str} {p pos : Pos} {args : List PySem.Expr} (hx : SndEs prog w A G X P W h₀ F args) : SndE prog w A G X P W h₀ F (.Call (.Name n p) args [] pos) := fun Γ env σ I h s K Q E f R w' hq => by
  have hd := dbg (gME_w w').1
  refine oME_w (gME_w w').2 fun k hk w' => ?_
  cases k with
  | globalImplicit =>
    have hkk := (f.kindOf n).trans hk
    have hg : s.heap.Ns env.globals W.mg := by rw [f.gl]; exact B.g.keeps R.stays
    have hb : s.heap.Ns env.builtins W.mb := by rw [f.bl]; exact B.b.keeps R.stays
    refine wpAny_Call_NameR ?_
    refine pME_w (gME_w w').2 (fun i hi w' => ?_) fun _ w' => pME_w w' (fun c hc w' => ?_) fun _ w' => pME_w w' (fun k hk5 w' => ?_) fun _ w' => ?_
    · have h5 := Nat.le_of_ble_eq_true (gME_w w').1
      refine Name_function_global f.kind hkk (loadGlobal_global hg (B.fn n i hi h5) ?_) hd
      refine callW hx f R (gME_w w').2 (fun hp hs => ?_) fun I1 s1 vs h1 ws X1 R1 l1 ⟨v,h',e,k⟩ => B.callF i vs h1 v h' e I1 s1 ws R1 l1 Q E (hq.pv X1 k)
      obtain ⟨o,fd,ho,hd⟩ := B.keepF n i hi h5
      refine ⟨.frame,.inl rfl,(Looks.ld (part := none) (hs _ _ ho)).andThen ?_⟩
      rw [hd]; exact .now
    · refine Name_function_global f.kind hkk (loadGlobal_global hg (B.cls n c hc) ?_) hd
      rcases B.okC n c hc with hcc | z
      · exact callW hx f R w' (fun hp hs => ⟨.machine,.inr (.inl rfl),B.keepC c hp hcc hs⟩) fun I1 s1 vs h1 ws X1 R1 l1 ⟨h',e,k⟩ => B.newC c vs h1 h' hcc e I1 s1 ws R1 l1 Q E (hq.pv X1 k)
      · obtain ⟨vs,h1,_,h',e,_⟩ := wEs_sound _ w'
        rw [z] at e; exact nn e
    · have hk' : k < 5 := idx_lt hk5
      refine Name_function_global f.kind hkk (loadGlobal_builtin hg (B.bi n k hk5).1 hb (B.bi n k hk5).2 ?_) hd
      exact callW hx f R w' (fun hp hs => keeps_machine (biFn_ne k)) fun I1 s1 vs h1 ws X1 R1 l1 ⟨v,h',e,kk⟩ => biV_sound B hk' R1 l1 e (hq.pv X1 kk)
    · have hr' : n = "range" := (sEq_iff _ _).mp (gME_w w').1
      subst hr'
      refine Name_function_global f.kind hkk (loadGlobal_builtin hg B.rng.1 hb B.rng.2 ?_) hd
      exact callW hx f R (rng_w (gME_w w').2) (fun hp hs => keeps_machine fun a (q : Value.type "range" = Value.ref a) => nomatch q) fun I1 s1 vs h1 ws X1 R1 l1 k => call_range l1 k fun a b c t u v tk _ q => hq.pv X1 q _ _ (rng_new R1)
  | _ => exact w'.elim
end
section
variable {prog : Program} {w : World} {A : Around} {G : Gp} {X : Gx} {P : Par} {W : Wd} {h₀ : Heap} {F : Call}
theorem base_of {o : PySem.Expr} (hb : isBase o = true) (a : Str) (env : Env) : attributeBase o a env (eval o env) = eval o env := by
  cases o <;> first | rfl | cases hb
noncomputable def methOk (m : Str) (k : Nat) : Prop := ∃ id,Slot "list" m id ∧ typeOf (.builtin id) = pure (.type "method_descriptor") ∧ ∀ {prog : Program} {w : World} {A : Around} {G : Gp} {P : Par} {h₀ : Heap} {I : List Addr} {h : H} {s : Shared},
  ConOk G P h₀ → Rel G h₀ I h s → ∀ {x y r : V} {x' y' : Value} {h' : H},VR I x x' → VR I y y' → methV P.C k x y h = some (r,h') →
    ∀ {Q E : Value → Shared → Prop},(∀ v' s',Pv G h₀ I s h' r v' s' → Q v' s') → wpAny (model prog w) A (call (.builtin id) [x',y']) Q E s
theorem meth_ok {m : Str} {k : Nat} (hk : idxOf? m meths = some k) : methOk m k := by
  have hg := idxOf_get m hk
  have hl : k < 3 := idx_lt hk
  match k,hl,hg with
  | 0,_,hg => cases hg; exact ⟨_,PySem.F.slot_list_append,PySem.F.type_list_append,fun C R _ _ _ _ _ _ hx hy e _ _ hq => append_sound R hx hy e hq⟩
  | 1,_,hg => cases hg; exact ⟨_,PySem.F.slot_list_index,PySem.F.type_list_index,fun C R _ _ _ _ _ _ hx hy e _ _ hq => index_sound C R hx hy e hq⟩
  | 2,_,hg => cases hg; exact ⟨_,PySem.F.slot_list_count,PySem.F.type_list_count,fun C R _ _ _ _ _ _ hx hy e _ _ hq => count_sound C R hx hy e hq⟩
noncomputable def meth1K (P : Par) (k : Nat) (ov : V) (K : KV) (vs : List V) (h : H) : Prop := match vs with
  | [x] => AnsQ (methV P.C k ov x h) K
  | _ => False
theorem snd_meth (B : Bd prog w A G X P W h₀ F) {o x : PySem.Expr} {m : Str} {apos pos : Pos} (ho : SndE prog w A G X P W h₀ F o) (hx : SndE prog w A G X P W h₀ F x) :
    SndE prog w A G X P W h₀ F (.Call (.Attribute o m apos) [x] [] pos) := fun Γ env σ I h s K Q E f R w' hq => by
  have w0 := gME_w w'
  have hbl := Bool.and_eq_true_iff.mp w0.1
  refine oME_w w0.2 fun k hk w' => ?_
  obtain ⟨id,slot,hty,hs⟩ := meth_ok hk
  have ws : starEach [x] env = (false,eval x env) :: starEach [] env := by
    obtain ⟨_,_,_,_,_,w2⟩ := wE_sound (trE X Γ o) w'
    exact star_off w2
  refine wpAny_Call_method1_late (base_of hbl.1 m env) hbl.2 (by rw [ws]; rfl) (ho Γ env σ I h s _ _ _ f R w' fun I1 s1 ov h1 ov' X1 R1 v1 ⟨ys,eys,w'⟩ => ?_)
  obtain ⟨b,ob,rfl,g1,us,n,rfl,l1⟩ := obj_sound B.con R1 v1 eys
  refine ⟨"list",id,PySem.F.plainAttrs_list,slot,hty,⟨_,g1,rfl⟩,fun a ha => by cases ha; exact ⟨_,g1,rfl⟩,?_⟩
  have key := callW (first := [.ref b]) (g := .builtin id) (es := [x]) (sndEs_cons hx sndEs_nil) (pos := pos) (f.ext0 X1) R1 (K := meth1K P k ov K) w' (fun hp hs => keeps_machine fun a (q : Value.builtin id = Value.ref a) => nomatch q) (Q := Q) (E := E)
    fun I2 s2 vs h2 ws X2 R2 l2 kk => by
      match vs,kk with
      | [y],⟨r,h3,e,k3⟩ =>
        obtain ⟨u,rfl,hu⟩ := one_of l2
        exact hs B.con R2 (v1.mono X2.pre) hu e (hq.pv (X1.trans X2) k3)
  rw [ws] at key
  exact key
theorem snd_attr (B : Bd prog w A G X P W h₀ F) {o : PySem.Expr} {a : Str} {pos : Pos} (ho : SndE prog w A G X P W h₀ F o) : SndE prog w A G X P W h₀ F (.Attribute o a pos) := fun Γ env σ I h s K Q E f R w' hq => by
  refine oME_w w' fun k hk w' => ?_
  have w0 := gME_w w'
  rw [arm_eval_Attribute,base_of w0.1]
  refine wpAny_bind (ho Γ env σ I h s _ _ _ f R w0.2 fun I1 s1 ov h1 ov' X1 R1 v1 ⟨x,e2,kk⟩ => wpAny_bind (wpAny_standAt (wpAny_bind (wpAny_holding ?_))))
  have key := B.getA h1 ov k x e2 (B.an a k hk).2 I1 s1 ov' R1 v1
  rw [(B.an a k hk).1] at key
  exact key _ _ fun r s2 p => wpAny_bind (wpAny_letTemporaryGo (wpAny_pure (hq.pv X1 kk _ _ p)))
theorem sub_plain {value slice : PySem.Expr} {o i : Value} (hs : isSliceE slice = false) : subscripted slice false o i = operate [o,i] (getItem o i) := by
  cases slice <;> first | rfl | cases hs
theorem trE_sub {o i : PySem.Expr} {pos : Pos} {Γ : Cx} (hs : isSliceE i = false) : trE X Γ (.Subscript o i pos) = .sub (trE X Γ o) (trE X Γ i) := by
  cases i <;> first | rfl | cases hs
theorem obj_type {C : Nat → Option O} {h : H} {v : V} {xs : List V} {I : List Addr} {s : Shared} (B : ConOk G P h₀) (R : Rel G h₀ I h s) {v' : Value} (hv : VR I v v') (e : objOf P.C h v = some (.lst xs) ∨ objOf P.C h v = some (.tup xs)) :
    ∃ T id,s.TypeIs v' T ∧ typeLookup (.type T) "__getitem__" = pure (some (.builtin id)) := by
  rcases e with e | e
  · obtain ⟨b,ob,rfl,g,us,n,rfl,l⟩ := obj_sound B R hv e
    exact ⟨"list",_,⟨_,g,rfl⟩,slot_list_getitem.lookup⟩
  · obtain ⟨b,ob,rfl,g,us,n,rfl,l⟩ := obj_sound B R hv e
    exact ⟨"tuple",_,⟨_,g,rfl⟩,slot_tuple_getitem.lookup⟩
theorem getSub_obj {C : Nat → Option O} {h : H} {v i r : V} (e : getSub C h v i = some r) : ∃ xs,objOf C h v = some (.lst xs) ∨ objOf C h v = some (.tup xs) := by
  obtain ⟨xs,e1,_⟩ := bS_inv e
  exact ⟨xs,e1⟩
theorem snd_sub (B : Bd prog w A G X P W h₀ F) {o i : PySem.Expr} {pos : Pos} (ho : SndE prog w A G X P W h₀ F o) (hi : SndE prog w A G X P W h₀ F i) (hs : isSliceE i = false) :
    SndE prog w A G X P W h₀ F (.Subscript o i pos) := fun Γ env σ I h s K Q E f R w' hq => by
  rw [trE_sub hs] at w'
  refine Subscript_ (ho Γ env σ I h s _ _ _ f R w' fun I1 s1 ov h1 ov' X1 R1 v1 w' => hi Γ env σ I1 h1 s1 _ _ _ (f.ext0 X1) R1 w' fun I2 s2 iv h2 iv' X2 R2 v2 ⟨r,e3,k⟩ => ?_)
  obtain ⟨xs,hx⟩ := getSub_obj e3
  obtain ⟨T,id,hT,hlk⟩ := obj_type (C := P.C) B.con R2 (v1.mono X2.pre) hx
  exact tail_any hT hlk (getSub_sound B.con R2 (v1.mono X2.pre) v2 e3 fun r' hr => hq _ _ _ _ _ (X1.trans X2) R2 hr k) (sub_plain (value := o) hs)
theorem slice_new {hp : Heap} {o : Obj} {b : Addr} {ob : Obj} (e : hp.get? b = some ob) : (hp.push o).get? b = some ob := Heap.get?_push_of_some _ e
theorem pick_from (items : List Value) (x : Int) (h : 0 ≤ x) : slicePick items.toArray (some x) none none = (items.drop x.toNat).toArray := by
  obtain ⟨n,rfl⟩ := Int.eq_ofNat_of_zero_le h
  rw [slicePick_from']; simp
theorem pick_two (items : List Value) (x y : Int) (h : 0 ≤ x) (h2 : 0 ≤ y) : slicePick items.toArray (some x) (some y) none = ((items.take y.toNat).drop x.toNat).toArray := by
  obtain ⟨n,rfl⟩ := Int.eq_ofNat_of_zero_le h
  obtain ⟨m,rfl⟩ := Int.eq_ofNat_of_zero_le h2
  rw [slicePick_plain]
  simp only [Option.elim,clipAt_nat,List.size_toArray,Int.toNat_natCast,List.drop_take]
  congr 1
  rcases Nat.le_total m items.length with q | q
  · rw [Nat.min_eq_left q]
    rcases Nat.le_total n items.length with q2 | q2
    · rw [Nat.min_eq_left q2]
    · rw [Nat.min_eq_right q2,show m - items.length = 0 by (first | lia | omega),show m - n = 0 by (first | lia | omega)]; simp
  · rw [Nat.min_eq_right q]
    rcases Nat.le_total n items.length with q2 | q2
    · rw [Nat.min_eq_left q2,List.take_of_length_le (by simp),List.take_of_length_le (by simp; (first | lia | omega))]
    · rw [Nat.min_eq_right q2,List.drop_of_length_le (by simp : items.length ≤ items.length),List.drop_of_length_le q2]; simp
theorem snd_slice_from (B : Bd prog w A G X P W h₀ F) {o lo : PySem.Expr} {p pos : Pos} (ho : SndE prog w A G X P W h₀ F o) (hlo : SndE prog w A G X P W h₀ F lo) :
    SndE prog w A G X P W h₀ F (.Subscript o (.Slice (some lo) none none p) pos) := fun Γ env σ I h s K Q E f R w' hq => by
  refine Subscript_ (ho Γ env σ I h s _ _ _ f R w' fun I1 s1 ov h1 ov' X1 R1 v1 w' => wpAny_Slice (hlo Γ env σ I1 h1 s1 _ _ _ (f.ext0 X1) R1 w' fun I2 s2 iv h2 iv' X2 R2 v2 ⟨x,xs,ex,e3,hc,k⟩ => ?_))
  subst ex
  obtain ⟨t,rfl⟩ := v2
  refine wpAny_pure (wpAny_pure ?_)
  obtain ⟨b,ob,rfl,g,us,n,rfl,l⟩ := obj_sound B.con R2 (v1.mono X2.pre) e3
  have hsz : us.toArray.size ≤ sizeLine := size_line (by rw [List.size_toArray,← l.1]; exact hc.2)
  refine tail_any ⟨_,slice_new g,rfl⟩ slot_list_getitem.lookup ?_ rfl
  refine wpAny_getItem_list_slice (isList_of (slice_new g) rfl) (Heap.IsSliceOf.new ..) (.int x t) .none .none (by simp) ?_ hsz
  rw [pick_from us x hc.1]
  have R3 : Rel G h₀ I2 h2 { s2 with heap := s2.heap.push { cls := .type "slice",data := .fields #[.int x t,.none,.none] },toks := s2.toks } := R2.keeps fun b o e => Heap.get?_push_of_some _ e
  have X3 : Ext NoP I2 s2 I2 { s2 with heap := s2.heap.push { cls := .type "slice",data := .fields #[.int x t,.none,.none] },toks := s2.toks } := Ext.keeps fun b o e => Heap.get?_push_of_some _ e
  exact hq.pv ((X1.trans X2).trans X3) k _ _ (pv_new (tk := s2.toks) R3 (ob := { cls := .type "list",data := .seq (us.drop x.toNat).toArray }) (o := .lst (xs.drop x.toNat)) rfl ⟨_,_,rfl,l.drop _⟩)
theorem snd_slice_two (B : Bd prog w A G X P W h₀ F) {o lo hi : PySem.Expr} {p pos : Pos} (ho : SndE prog w A G X P W h₀ F o) (hlo : SndE prog w A G X P W h₀ F lo) (hhi : SndE prog w A G X P W h₀ F hi) :
    SndE prog w A G X P W h₀ F (.Subscript o (.Slice (some lo) (some hi) none p) pos) := fun Γ env σ I h s K Q E f R w' hq => by
  refine Subscript_ (ho Γ env σ I h s _ _ _ f R w' fun I1 s1 ov h1 ov' X1 R1 v1 w' => wpAny_Slice (hlo Γ env σ I1 h1 s1 _ _ _ (f.ext0 X1) R1 w' fun I2 s2 iv h2 iv' X2 R2 v2 w' =>
    hhi Γ env σ I2 h2 s2 _ _ _ ((f.ext0 X1).ext0 X2) R2 w' fun I3 s3 jv h3 jv' X3 R3 v3 ⟨x,y,xs,ex,ey,e4,hc,k⟩ => ?_))
  subst ex ey
  obtain ⟨t,rfl⟩ := v2
  obtain ⟨u,rfl⟩ := v3
  refine wpAny_pure ?_
  obtain ⟨b,ob,rfl,g,us,n,rfl,l⟩ := obj_sound B.con R3 ((v1.mono X2.pre).mono X3.pre) e4
  have hsz : us.toArray.size ≤ sizeLine := size_line (by rw [List.size_toArray,← l.1]; exact hc.2.2)
  refine tail_any ⟨_,slice_new g,rfl⟩ slot_list_getitem.lookup ?_ rfl
  refine wpAny_getItem_list_slice (isList_of (slice_new g) rfl) (Heap.IsSliceOf.new ..) (.int x t) (.int y u) .none (by simp) ?_ hsz
  rw [pick_two us x y hc.1 hc.2.1]
  have R4 : Rel G h₀ I3 h3 { s3 with heap := s3.heap.push { cls := .type "slice",data := .fields #[.int x t,.int y u,.none] },toks := s3.toks } := R3.keeps fun b o e => Heap.get?_push_of_some _ e
  have X4 : Ext NoP I3 s3 I3 { s3 with heap := s3.heap.push { cls := .type "slice",data := .fields #[.int x t,.int y u,.none] },toks := s3.toks } := Ext.keeps fun b o e => Heap.get?_push_of_some _ e
  exact hq.pv (((X1.trans X2).trans X3).trans X4) k _ _ (pv_new (tk := s3.toks) R4 (ob := { cls := .type "list",data := .seq ((us.take y.toNat).drop x.toNat).toArray }) (o := .lst ((xs.take y.toNat).drop x.toNat)) rfl ⟨_,_,rfl,(l.take _).drop _⟩)
end
inductive Wk (C : Nat → Option O) (I : List Addr) (it : Addr) : It → List Addr → (Nat → Heap → Prop) → Prop
  | rng (a b c : Int) (ok : H → Bool) : rangeOk a b c = true → Wk C I it ⟨(rangeList a b c).map .int,ok⟩ [it] (fun i hp => IsRangeIter hp it (a + (i : Nat) * c) (((rangeList a b c).length : Int) - (i : Nat)) c)
  | lst (v : V) (l : Addr) (xs : List V) : VR I v (.ref l) → Wk C I it ⟨xs,fun h => stable C v (.lst xs) h⟩ [it] (fun i hp => hp.IsListIter it l i)
  | tup (v : V) (l : Addr) (xs : List V) : VR I v (.ref l) → Wk C I it ⟨xs,fun h => stable C v (.tup xs) h⟩ [it] (fun i hp => IsTupIter hp it l i)
  | tmp (t : Addr) (us : List Value) (xs : List V) (ok : H → Bool) : LR I xs us → t ≠ it → Wk C I it ⟨xs,ok⟩ [it,t] (fun i hp => IsTupIter hp it t i ∧ IsTup hp t us.toArray)
section
variable {prog : Program} {w : World} {A : Around} {E : Value → Shared → Prop} {G : Gp} {X : Gx} {P : Par} {W : Wd} {h₀ : Heap} {F : Call} {I I' : List Addr} {h : H} {s : Shared} {it : Addr} {T : It} {fp : List Addr} {st : Nat → Heap → Prop}
theorem Wk.mono {C : Nat → Option O} (p : I <+: I') (x : Wk C I it T fp st) : Wk C I' it T fp st := by
  cases x with
  | rng a b c ok h => exact .rng a b c ok h
  | lst v l xs h => exact .lst v l xs (h.mono p)
  | tup v l xs h => exact .tup v l xs (h.mono p)
  | tmp t us xs ok h n => exact .tmp t us xs ok (h.mono p) n
theorem Wk.mem {C : Nat → Option O} (x : Wk C I it T fp st) : it ∈ fp := by cases x <;> simp
theorem tupIter_at {hp hp' : Heap} {a t : Addr} {i : Nat} (x : IsTupIter hp a t i) (e : ∀ o,hp.get? a = some o → hp'.get? a = some o) : IsTupIter hp' a t i := let ⟨o,ho,r⟩ := x; ⟨o,e o ho,r⟩
theorem isTup_at {hp hp' : Heap} {a : Addr} {items : Array Value} (x : IsTup hp a items) (e : ∀ o,hp.get? a = some o → hp'.get? a = some o) : IsTup hp' a items := let ⟨o,ho,r⟩ := x; ⟨o,e o ho,r⟩
theorem Wk.frame {C : Nat → Option O} (x : Wk C I it T fp st) {i : Nat} {hp hp' : Heap} (y : st i hp) (k : ∀ b ∈ fp,∀ o,hp.get? b = some o → hp'.get? b = some o) : st i hp' := by
  cases x with
  | rng a b c ok h => exact k it (by simp) _ y
  | lst v l xs h => exact Heap.IsListIter.at y fun o e => k it (by simp) o e
  | tup v l xs h => exact tupIter_at y fun o e => k it (by simp) o e
  | tmp t us xs ok h n => exact ⟨tupIter_at y.1 fun o e => k it (by simp) o e,isTup_at y.2 fun o e => k t (by simp) o e⟩
theorem stable_obj {C : Nat → Option O} {v : V} {o : O} {h : H} (e : stable C v o h = true) : objOf C h v = some o := by
  unfold stable at e; exact eq_of_beq e
theorem Wk.next (C : ConOk G P h₀) (x : Wk P.C I it T fp st) (R : Rel G h₀ I h s) {i : Nat} (y : st i s.heap) (ok : T.ok h = true) {v : V} (e : T.xs[i]? = some v)
    {Q : Option Value → Shared → Prop} (hq : ∀ v' h1 tk,VR I v v' → st (i + 1) h1 → Heap.SameBut it s.heap h1 → Q (some v') { s with heap := h1,toks := tk }) : wpAny (model prog w) A (pyNext (.ref it)) Q E s := by
  cases x with
  | rng a b c ok' hok =>
    simp only [List.getElem?_map,Option.map_eq_some_iff] at e
    obtain ⟨n,hn,rfl⟩ := e
    have hl := (List.getElem?_eq_some_iff.mp hn).1
    simp only [rangeList,List.getElem?_map,Option.map_eq_some_iff] at hn
    obtain ⟨j,hj,rfl⟩ := hn
    obtain ⟨_,hj2⟩ := List.getElem?_eq_some_iff.mp hj
    simp at hj2
    subst hj2
    refine wpAny_pyNext_range_item y (by (first | lia | omega)) fun h1 hit hs => hq _ h1 _ ⟨_,rfl⟩ ?_ hs
    have e1 : a + ((i + 1 : Nat) : Int) * c = a + (i : Int) * c + c := by rw [Int.natCast_add,Int.add_mul]; simp [Int.add_assoc]
    have e2 : ((rangeList a b c).length : Int) - ((i + 1 : Nat) : Int) = ((rangeList a b c).length : Int) - (i : Int) - 1 := by (first | lia | omega)
    show IsRangeIter h1 it (a + ((i + 1 : Nat) : Int) * c) (((rangeList a b c).length : Int) - ((i + 1 : Nat) : Int)) c
    rw [e1,e2]; exact hit
  | lst v0 l xs hv0 =>
    obtain ⟨b,ob,q,g,us,n,rfl,lr⟩ := obj_sound C R hv0 (stable_obj ok)
    cases q
    obtain ⟨u,eu,hu⟩ := lr.at e
    exact wpAny_pyNext_list_item y (isList_of g rfl) (by rw [List.getElem?_toArray]; exact eu) fun h1 hit hs => hq u h1 s.toks hu hit hs
  | tup v0 l xs hv0 =>
    obtain ⟨b,ob,q,g,us,n,rfl,lr⟩ := obj_sound C R hv0 (stable_obj ok)
    cases q
    obtain ⟨u,eu,hu⟩ := lr.at e
    exact next_tuple_item y (isTup_of g rfl) (by rw [List.getElem?_toArray]; exact eu) fun h1 hit hs => hq u h1 s.toks hu hit hs
  | tmp t us xs ok' lr hne =>
    obtain ⟨u,eu,hu⟩ := lr.at e
    exact next_tuple_item y.1 y.2 (by rw [List.getElem?_toArray]; exact eu) fun h1 hit hs => hq u h1 s.toks hu ⟨hit,isTup_at y.2 fun o q => hs.extBut t o hne q⟩ hs
theorem Wk.fin (C : ConOk G P h₀) (hh : A.handled = none) (x : Wk P.C I it T fp st) (R : Rel G h₀ I h s) {i : Nat} (y : st i s.heap) (ok : T.ok h = true) (e : T.xs[i]? = none) (hi : i ≤ T.xs.length)
    {Q : Option Value → Shared → Prop} (hq : ∀ h1,Heap.ExtBut it s.heap h1 → Q none { s with heap := h1 }) : wpAny (model prog w) A (pyNext (.ref it)) Q E s := by
  cases x with
  | rng a b c ok' hok =>
    have hl := List.getElem?_eq_none_iff.mp e
    rw [List.length_map] at hl hi
    exact wpAny_pyNext_range_end hh y (by (first | lia | omega)) hq
  | lst v0 l xs hv0 =>
    obtain ⟨b,ob,q,g,us,n,rfl,lr⟩ := obj_sound C R hv0 (stable_obj ok)
    cases q
    have hl := List.getElem?_eq_none_iff.mp e
    exact wpAny_pyNext_list_end hh y (isList_of g rfl) (by rw [List.getElem?_toArray]; exact List.getElem?_eq_none (by rw [← lr.1]; exact hl)) hq
  | tup v0 l xs hv0 =>
    obtain ⟨b,ob,q,g,us,n,rfl,lr⟩ := obj_sound C R hv0 (stable_obj ok)
    cases q
    have hl := List.getElem?_eq_none_iff.mp e
    exact next_tuple_end hh y (isTup_of g rfl) (by rw [List.getElem?_toArray]; exact List.getElem?_eq_none (by rw [← lr.1]; exact hl)) hq
  | tmp t us xs ok' lr hne =>
    have hl := List.getElem?_eq_none_iff.mp e
    exact next_tuple_end hh y.1 y.2 (by rw [List.getElem?_toArray]; exact List.getElem?_eq_none (by rw [← lr.1]; exact hl)) hq
theorem tupIter_old {hp : Heap} {it t : Addr} {i : Nat} (x : IsTupIter hp it t i) : hp.IsTupleIter it t i := let ⟨o,a,b,c⟩ := x; ⟨o,a,b,c⟩
theorem Wk.self {C : Nat → Option O} (x : Wk C I it T fp st) {i : Nat} (y : st i s.heap) {Q : Value → Shared → Prop} (hq : Q (.ref it) s) : wpAny (model prog w) A (pyIter (.ref it)) Q E s := by
  cases x with
  | rng a b c ok' hok => exact wpAny_pyIter_rangeiter y hq
  | lst v0 l xs hv0 => exact wpAny_pyIter_listiter y hq
  | tup v0 l xs hv0 => exact wpAny_pyIter_tupleiter (tupIter_old y) hq
  | tmp t us xs ok' lr hne => exact wpAny_pyIter_tupleiter (tupIter_old y.1) hq
theorem Wk.go {C : Nat → Option O} (x : Wk C I it T fp st) {i : Nat} (y : st i s.heap) {target : PySem.Expr} {v : Value} {Q : Unit → Shared → Prop} (hq : Q () s) : wpAny (model prog w) A (letOwnedTupleGo target (.ref it) v) Q E s := by
  have ex : ∃ o n vs,s.heap.get? it = some o ∧ o.cls = .type n ∧ o.data = .fields vs ∧ (["enumerate","zip","dict_itemiterator","dict_reverseitemiterator","odict_iterator","itertools.zip_longest","itertools.pairwise"].contains n) = false := by
    cases x with
    | rng a b c ok' hok => exact ⟨_,"range_iterator",_,y,rfl,rfl,by decide⟩
    | lst v0 l xs hv0 => obtain ⟨o,a,b,c⟩ := y; exact ⟨o,_,_,a,b,c,by decide⟩
    | tup v0 l xs hv0 => obtain ⟨o,a,b,c⟩ := y; exact ⟨o,_,_,a,b,c,by decide⟩
    | tmp t us xs ok' lr hne => obtain ⟨o,a,b,c⟩ := y.1; exact ⟨o,_,_,a,b,c,by decide⟩
  obtain ⟨o,n,vs,ho,hc,hd,hn⟩ := ex
  have main : ∀ es k p,wpAny (model prog w) A (letOwnedTupleGo (.Tuple es k p) (.ref it) v) Q E s := fun es k p => by
    cases v <;> try exact wpAny_pure hq
    refine wpAny_bind (wpAny_load ho ?_)
    rw [hc,hd]
    show wpAny _ A (if (_ && _) = true then _ else _) Q E s
    rw [if_neg (by rw [hn]; simp)]
    exact wpAny_pure hq
  cases target with
  | Tuple es k p => exact main es k p
  | List es p => exact main es 0 p
  | _ => exact wpAny_pure hq
theorem Rel.alive (R : Rel G h₀ I h s) {b : Addr} (hb : b ∈ I) : (s.heap.get? b).isSome = true := by
  obtain ⟨i,hi⟩ := List.getElem?_of_mem hb
  have hl : i < h.length := by rw [← R.len]; exact (List.getElem?_eq_some_iff.mp hi).1
  obtain ⟨ob,e,_⟩ := R.at_ i _ b (List.getElem?_eq_getElem hl) hi
  rw [e]; rfl
theorem Rel.notMem (R : Rel G h₀ I h s) {b : Addr} (hb : s.heap.get? b = none) : b ∉ I ∧ h₀.get? b = none := by
  refine ⟨fun q => ?_,?_⟩
  · have := R.alive q; rw [hb] at this; exact ff this
  · cases e : h₀.get? b with
    | none => rfl
    | some o => rw [R.stays b o e] at hb; cases hb
noncomputable def IterQ (G : Gp) (P : Par) (h₀ : Heap) (I : List Addr) (s : Shared) (T : It) (h' : H) (Q : Value → Shared → Prop) : Prop :=
  ∀ I' s' it fp st,Ext NoP I s I' s' → Rel G h₀ I' h' s' → Wk P.C I' it T fp st → st 0 s'.heap →
    (∀ b ∈ fp,s.heap.get? b = none ∧ (s'.heap.get? b).isSome = true ∧ b ∉ I' ∧ h₀.get? b = none) → Q (.ref it) s'
noncomputable def SndI (prog : Program) (w : World) (A : Around) (G : Gp) (X : Gx) (P : Par) (W : Wd) (h₀ : Heap) (F : Call) (e : PySem.Expr) : Prop :=
  ∀ (Γ : Cx) (env : Env) (σ : Sig) (I : List Addr) (h : H) (s : Shared) (K : It → H → Prop) (Q E : Value → Shared → Prop),FrameR W Γ env σ I h₀ s → Rel G h₀ I h s → wI P F (toI' e (trE X Γ e)) σ h K →
    (∀ T h1,K T h1 → IterQ G P h₀ I s T h1 Q) → wpAny (model prog w) A (eval e env) (fun x s1 => wpAny (model prog w) A (pyIter x) Q E s1) E s
theorem new_it {I : List Addr} {s s1 : Shared} {ob : Obj} (X : Ext NoP I s I' s1) (R : Rel G h₀ I' h s1) (hf : ob.isFreed = false) :
    Ext NoP I s I' { s1 with heap := s1.heap.push ob } ∧ Rel G h₀ I' h { s1 with heap := s1.heap.push ob } ∧
    (s.heap.get? s1.heap.objs.size = none ∧ ((s1.heap.push ob).get? s1.heap.objs.size).isSome = true ∧ s1.heap.objs.size ∉ I' ∧ h₀.get? s1.heap.objs.size = none) := by
  have k : ∀ b o,s1.heap.get? b = some o → (s1.heap.push ob).get? b = some o := fun b o e => Heap.get?_push_of_some _ e
  have n := R.notMem (b := s1.heap.objs.size) get_none_of_size
  exact ⟨X.trans (Ext.keeps (tk := s1.toks) k),R.keeps (tk := s1.toks) k,X.live _ (fun q => q) get_none_of_size,by rw [Heap.get?_push_size _ hf]; rfl,n.1,n.2⟩
theorem sndI_val (B : Bd prog w A G X P W h₀ F) {e : PySem.Expr} (hx : SndE prog w A G X P W h₀ F e) {Γ : Cx} {env : Env} {σ : Sig} {I : List Addr} {h : H} {s : Shared} {K : It → H → Prop} (f : FrameR W Γ env σ I h₀ s) (R : Rel G h₀ I h s)
    (w' : wI P F (.val (trE X Γ e)) σ h K) {Q E : Value → Shared → Prop} (hq : ∀ T h1,K T h1 → IterQ G P h₀ I s T h1 Q) : wpAny (model prog w) A (eval e env) (fun x s1 => wpAny (model prog w) A (pyIter x) Q E s1) E s := by
  refine hx Γ env σ I h s _ _ _ f R w' fun I1 s1 v h1 v' X1 R1 v1 ⟨o,xs,e2,e3,kk⟩ => ?_
  replace hq := hq _ _ kk
  obtain ⟨b,ob,rfl,g,hor⟩ := obj_sound B.con R1 v1 e2
  cases o with
  | lst xs' =>
    obtain rfl := Option.some.inj (show some xs' = some xs from e3)
    obtain ⟨us,n,rfl,lr⟩ := hor
    refine wpAny_pyIter_list (isList_of g rfl) ?_
    obtain ⟨a1,a2,a3⟩ := new_it (ob := { cls := .type "list_iterator",data := .fields #[.ref b,.int 0 0] }) X1 R1 rfl
    exact hq I1 _ _ [_] _ a1 a2 (.lst v b xs' v1) ⟨_,Heap.get?_push_size _ rfl,rfl,rfl⟩ fun c hc => by rw [List.mem_singleton.mp hc]; exact a3
  | tup xs' =>
    obtain rfl := Option.some.inj (show some xs' = some xs from e3)
    obtain ⟨us,n,rfl,lr⟩ := hor
    refine iter_tuple (isTup_of g rfl) ?_
    obtain ⟨a1,a2,a3⟩ := new_it (ob := { cls := .type "tuple_iterator",data := .fields #[.ref b,.int 0 0] }) X1 R1 rfl
    exact hq I1 _ _ [_] _ a1 a2 (.tup v b xs' v1) ⟨_,Heap.get?_push_size _ rfl,rfl,rfl⟩ fun c hc => by rw [List.mem_singleton.mp hc]; exact a3
  | rng x y z =>
    obtain ⟨hok,e3⟩ := if_inv e3
    obtain rfl := Option.some.inj e3
    obtain ⟨t1,t2,t3,rfl⟩ := hor
    obtain ⟨z1,z2,_⟩ := small_range hok
    refine wpAny_pyIter_range g z1 ?_
    obtain ⟨a1,a2,a3⟩ := new_it (ob := { cls := .type "range_iterator",data := .fields #[rawInt x,rawInt (Builtin.Range.rangeSize x y z),rawInt z] }) X1 R1 rfl
    refine hq I1 _ _ [_] _ a1 a2 (.rng x y z _ hok) ?_ fun c hc => by rw [List.mem_singleton.mp hc]; exact a3
    show IsRangeIter _ _ _ _ _
    unfold IsRangeIter
    rw [z2]
    have := Heap.get?_push_size (h := s1.heap) (o := { cls := .type "range_iterator",data := .fields #[rawInt x,rawInt ((rangeList x y z).length : Int),rawInt z] }) rfl
    simpa using this
  | inst c d => exact nn e3
  | dct fs => exact nn e3
end
section
variable {prog : Program} {w : World} {A : Around} {G : Gp} {X : Gx} {P : Par} {W : Wd} {h₀ : Heap} {F : Call}
theorem IterQ.range {I I1 : List Addr} {s s1 : Shared} {h1 : H} {a b c : Int} {t u v : Tok} {tk : Tok} (hok : rangeOk a b c = true) (X1 : Ext NoP I s I1 s1) (R1 : Rel G h₀ I1 h1 s1) {Q E : Value → Shared → Prop}
    (hq : IterQ G P h₀ I s ⟨(rangeList a b c).map .int,fun _ => true⟩ h1 Q) :
    wpAny (model prog w) A (pyIter (.ref s1.heap.objs.size)) Q E { s1 with heap := s1.heap.push { cls := .type "range",data := .fields #[.int a t,.int b u,.int c v] },toks := tk } := by
  obtain ⟨z1,z2,_⟩ := small_range hok
  have k : ∀ b' o,s1.heap.get? b' = some o → (s1.heap.push { cls := .type "range",data := .fields #[.int a t,.int b u,.int c v] }).get? b' = some o := fun b o e => Heap.get?_push_of_some _ e
  refine wpAny_pyIter_range (IsRange.new _ _ _ _ _ _ _) z1 ?_
  obtain ⟨a1,a2,a3⟩ := new_it (ob := { cls := .type "range_iterator",data := .fields #[rawInt a,rawInt (Builtin.Range.rangeSize a b c),rawInt c] }) (X1.trans (Ext.keeps (tk := tk) k)) (R1.keeps (tk := tk) k) rfl
  refine hq I1 _ _ [_] _ a1 a2 (.rng a b c _ hok) ?_ fun d hd => by rw [List.mem_singleton.mp hd]; exact a3
  show IsRangeIter _ _ _ _ _
  unfold IsRangeIter
  rw [z2]
  have := Heap.get?_push_size (h := s1.heap.push { cls := .type "range",data := .fields #[.int a t,.int b u,.int c v] }) (o := { cls := .type "range_iterator",data := .fields #[rawInt a,rawInt ((rangeList a b c).length : Int),rawInt c] }) rfl
  simpa using this
theorem callG_cases {n : Str} {as : MEs} : toI (callG X n as) = .val (callG X n as) ∨ (sEq n "range" = true ∧ callG X n as = rngM as) := by
  unfold callG
  generalize idxOf? n X.fns = a
  generalize idxOf? n X.cls = b
  generalize idxOf? n bis = c
  generalize sEq n "range" = d
  cases a with
  | some i => show toI (gME (Nat.ble 5 i) _) = .val (gME (Nat.ble 5 i) _) ∨ _; cases Nat.ble 5 i <;> exact .inl rfl
  | none => cases b with
    | some i => exact .inl rfl
    | none => cases c with
      | some i => exact .inl rfl
      | none => cases d with
        | false => exact .inl rfl
        | true => exact .inr ⟨rfl,rfl⟩
theorem call_cases {Γ : Cx} {n : Str} {as : MEs} {c : Bool} : toI (gME c (trCallName X Γ n as)) = .val (gME c (trCallName X Γ n as)) ∨ (c = true ∧ kindIn n Γ.names = some .globalImplicit ∧ sEq n "range" = true ∧ gME c (trCallName X Γ n as) = rngM as) := by
  unfold trCallName
  cases c with
  | false => exact .inl rfl
  | true => cases kindIn n Γ.names with
    | none => exact .inl rfl
    | some k => cases k with
      | globalImplicit => exact callG_cases.imp id fun ⟨a,b⟩ => ⟨rfl,rfl,a,b⟩
      | _ => exact .inl rfl
theorem rngI_w {Γ : Cx} {σ : Sig} {h : H} {K : It → H → Prop} : ∀ {args : List PySem.Expr},wI P F (toI (rngM (trEs X Γ args))) σ h K → wEs P F (trEs X Γ args) σ h (rngG (zI K))
  | [],w' => w'.elim
  | [_],w' => w'
  | [_,_],w' => w'
  | [_,_,_],w' => w'
  | _ :: _ :: _ :: _ :: _,w' => w'.elim
theorem sndI_call (B : Bd prog w A G X P W h₀ F) {n : Str} {p pos : Pos} {args : List PySem.Expr} (hx : SndEs prog w A G X P W h₀ F args) (he : SndE prog w A G X P W h₀ F (.Call (.Name n p) args [] pos)) :
    SndI prog w A G X P W h₀ F (.Call (.Name n p) args [] pos) := fun Γ env σ I h s K Q E f R w' hq => by
  rcases call_cases (X := X) (Γ := Γ) (n := n) (as := trEs X Γ args) (c := !sEq n "__debug__") with e | ⟨e0,hk,hr,e⟩
  · exact sndI_val B he f R (e ▸ w') hq
  · have hd := dbg e0
    have hkk := (f.kindOf n).trans hk
    have hg : s.heap.Ns env.globals W.mg := by rw [f.gl]; exact B.g.keeps R.stays
    have hb : s.heap.Ns env.builtins W.mb := by rw [f.bl]; exact B.b.keeps R.stays
    have hr' : n = "range" := (sEq_iff _ _).mp hr
    replace w' : wI P F (toI (rngM (trEs X Γ args))) σ h K := e ▸ w'
    subst hr'
    refine wpAny_Call_NameR ?_
    refine Name_function_global f.kind hkk (loadGlobal_builtin hg B.rng.1 hb B.rng.2 ?_) hd
    exact callW hx f R (rngI_w w') (fun hp hs => keeps_machine fun a (q : Value.type "range" = Value.ref a) => nomatch q) fun I1 s1 vs h1 ws X1 R1 l1 k => call_range l1 k fun a b c t u v tk ok q => IterQ.range ok X1 R1 (hq _ _ q)
theorem sndI_tuple {es : List PySem.Expr} {k : Nat} {pos : Pos} (hx : SndEs prog w A G X P W h₀ F es) : SndI prog w A G X P W h₀ F (.Tuple es k pos) := fun Γ env σ I h s K Q E f R w' hq => by
  refine wpAny_Tuple (hx Γ env σ I h s pos _ _ _ f R w' fun I1 s1 vs h1 ws X1 R1 l1 kk => ⟨size_line (by rw [← l1.1]; exact Nat.le_of_ble_eq_true kk.e),?_⟩)
  replace hq := hq _ _ kk.q
  obtain ⟨a1,a2,a3⟩ := new_it (ob := { cls := .type "tuple",data := .seq ws.toArray }) X1 R1 rfl
  refine iter_tuple (t := s1.heap.objs.size) ⟨_,Heap.get?_push_size _ rfl,rfl,_,rfl⟩ ?_
  obtain ⟨b1,b2,b3⟩ := new_it (ob := { cls := .type "tuple_iterator",data := .fields #[.ref s1.heap.objs.size,.int 0 0] }) a1 a2 rfl
  have hne : s1.heap.objs.size ≠ (s1.heap.push { cls := .type "tuple",data := .seq ws.toArray }).objs.size := by rw [Heap.size_push]; (first | lia | omega)
  have ht := Heap.get?_push_of_some { cls := .type "tuple_iterator",data := .fields #[.ref s1.heap.objs.size,.int 0 0] } (Heap.get?_push_size s1.heap (o := { cls := .type "tuple",data := .seq ws.toArray }) rfl)
  refine hq I1 _ _ [_,_] _ b1 b2 (.tmp s1.heap.objs.size ws vs (fun _ => true) l1 hne) ⟨⟨_,Heap.get?_push_size _ rfl,rfl,rfl⟩,⟨_,ht,rfl,_,rfl⟩⟩ fun c hc => ?_
  rcases List.mem_cons.mp hc with rfl | hc
  · exact b3
  · rw [List.mem_singleton.mp hc]
    exact ⟨a3.1,by rw [ht]; rfl,a3.2.2⟩
theorem Rel.adopt {I : List Addr} {h : H} {s : Shared} (R : Rel G h₀ I h s) {b : Addr} {ob : Obj} {o : O} (hb : b ∉ I) (h0 : h₀.get? b = none) (e : s.heap.get? b = some ob) (r : OR G (I ++ [b]) o ob) : Rel G h₀ (I ++ [b]) (h ++ [o]) s := by
  refine ⟨R.stays,by simp [R.len],?_,fun c hc => ?_,fun i o' c a d => ?_⟩
  · rw [List.nodup_append]
    refine ⟨R.nodup,by simp,fun a ha c hc => ?_⟩
    rw [List.mem_singleton.mp hc]
    rintro rfl; exact hb ha
  · rcases List.mem_append.mp hc with hc | hc
    · exact R.fresh c hc
    · rw [List.mem_singleton.mp hc]; exact h0
  · by_cases hi : i < h.length
    · rw [List.getElem?_append_left hi] at a
      rw [List.getElem?_append_left (by rw [R.len]; exact hi)] at d
      obtain ⟨ob',e',r'⟩ := R.at_ i o' c a d
      exact ⟨ob',e',r'.mono (List.prefix_append _ _)⟩
    · rw [List.getElem?_append_right (by (first | lia | omega))] at a
      rw [List.getElem?_append_right (by rw [R.len]; (first | lia | omega))] at d
      have : i - h.length = 0 := by
        have := (List.getElem?_eq_some_iff.mp a).1
        simp at this; (first | lia | omega)
      rw [this] at a
      rw [R.len,this] at d
      simp at a d
      subst a d
      exact ⟨ob,e,r⟩
theorem Ext.less {Q : Addr → Prop} {I I' : List Addr} {s s' : Shared} (x : Ext Q I s I' s') : Ext Q I s I s' := ⟨x.same,List.prefix_refl _,fun _ q => .inl q,x.keep,x.live,fun _ q => .inl q⟩
theorem Ext.fresh {Q : Addr → Prop} {I I' : List Addr} {s s' : Shared} (x : Ext Q I s I' s') (hq : ∀ b,Q b → s.heap.get? b = none) : Ext NoP I s I' s' :=
  ⟨x.same,x.pre,x.new,fun b o a _ e => x.keep b o a (fun q => by rw [hq b q] at e; exact nn e) e,fun b _ e => (by
    cases z : s.heap.get? b with
    | none => rfl
    | some o => rw [x.live b (fun q => by rw [hq b q] at z; exact nn z) e] at z; exact nn z),fun _ _ => .inr fun q => q⟩
end
noncomputable def clS (cells : List (Str × Addr)) (p : Str × NameKind) (acc : List (Str × Addr)) : List (Str × Addr) := if (p.2 == .free) = true then (p.1,(cells.lookup p.1).getD 0) :: acc else acc
theorem clS_yes (cells : List (Str × Addr)) {n : Str} {k : NameKind} (acc : List (Str × Addr)) (h : (k == .free) = true) : clS cells (n,k) acc = (n,(cells.lookup n).getD 0) :: acc := if_pos h
theorem clS_no (cells : List (Str × Addr)) {n : Str} {k : NameKind} (acc : List (Str × Addr)) (h : ¬ (k == .free) = true) : clS cells (n,k) acc = acc := if_neg h
noncomputable def clA (cells : List (Str × Addr)) : List (Str × NameKind) → List (Str × Addr) → List (Str × Addr)
  | [],acc => acc
  | p :: r,acc => clA cells r (clS cells p acc)
theorem clA_mem (cells : List (Str × Addr)) : ∀ (names : List (Str × NameKind)) (acc : List (Str × Addr)) (n : Str) (c : Addr),(n,c) ∈ clA cells names acc → (n,c) ∈ acc ∨ (c = (cells.lookup n).getD 0 ∧ (n,NameKind.free) ∈ names)
  | [],acc,n,c,h => .inl h
  | (m,k) :: r,acc,n,c,h => by
    rcases clA_mem cells r _ n c h with q | q
    · by_cases hk : (k == .free) = true
      · rw [clS_yes cells acc hk] at q
        rcases List.mem_cons.mp q with e | q
        · cases e
          right; exact ⟨rfl,by rw [beq_iff_eq.mp hk]; exact List.mem_cons_self⟩
        · exact .inl q
      · rw [clS_no cells acc hk] at q; exact .inl q
    · exact .inr ⟨q.1,List.mem_cons_of_mem _ q.2⟩
theorem lookup_some_of_mem {α : Type} : ∀ {l : List (Str × α)} {n : Str} {c : α},(n,c) ∈ l → ∃ c',l.lookup n = some c'
  | (m,v) :: r,n,c,h => by
    rw [List.lookup_cons]
    by_cases e : n = m
    · subst e; exact ⟨v,by simp⟩
    · have hb : (n == m) = false := beq_eq_false_iff_ne.mpr e
      rw [hb]
      rcases List.mem_cons.mp h with q | q
      · cases q; exact absurd rfl e
      · exact lookup_some_of_mem q
theorem clA_acc (cells : List (Str × Addr)) : ∀ (names : List (Str × NameKind)) (acc : List (Str × Addr)) (x : Str × Addr),x ∈ acc → x ∈ clA cells names acc
  | [],_,_,h => h
  | (m,k) :: r,acc,x,h => clA_acc cells r _ x (by
    by_cases hk : (k == .free) = true
    · rw [clS_yes cells acc hk]; exact List.mem_cons_of_mem _ h
    · rw [clS_no cells acc hk]; exact h)
theorem clA_has (cells : List (Str × Addr)) : ∀ (names : List (Str × NameKind)) (acc : List (Str × Addr)) (n : Str),(n,NameKind.free) ∈ names → (n,(cells.lookup n).getD 0) ∈ clA cells names acc
  | (m,k) :: r,acc,n,h => by
    rcases List.mem_cons.mp h with e | e
    · cases e
      exact clA_acc cells r _ _ (by rw [clS_yes cells acc (k := .free) rfl]; exact List.mem_cons_self)
    · exact clA_has cells r _ n e
theorem clA_lookup {cells : List (Str × Addr)} {names : List (Str × NameKind)} {n : Str} (h : (n,NameKind.free) ∈ names) : (clA cells names []).lookup n = some ((cells.lookup n).getD 0) := by
  obtain ⟨c,e⟩ := lookup_some_of_mem (clA_has cells names [] n h)
  rcases clA_mem cells names [] n c (mem_of_lookup e) with q | q
  · cases q
  · rw [e,q.1]
theorem cellsFrom_app : ∀ (names : List (Str × NameKind)) (n : Nat) (acc : List (Str × Addr)),cellsFrom n names acc = cellsFrom n names [] ++ acc
  | [],_,_ => rfl
  | (m,k) :: r,n,acc => by
    unfold cellsFrom
    split
    · rw [cellsFrom_app r (n + 1) ((m,n) :: acc),cellsFrom_app r (n + 1) [(m,n)]]; simp
    · exact cellsFrom_app r n acc
set_option tactic.hygienic true in
theorem cellsFrom_mem : ∀ (names : List (Str × NameKind)) (n : Nat) (y : Str) (c : Addr),(y,c) ∈ cellsFrom n names [] → (y,NameKind.cell) ∈ names
  | (m,k) :: r,n,y,c,h => by
    unfold cellsFrom at h
    split at h
    · rename_i hk
      rw [cellsFrom_app] at h
      rcases List.mem_append.mp h with q | q
      · exact List.mem_cons_of_mem _ (cellsFrom_mem r _ y c q)
      · rw [List.mem_singleton] at q; cases q; rw [beq_iff_eq.mp hk]; exact List.mem_cons_self
    · exact List.mem_cons_of_mem _ (cellsFrom_mem r _ y c h)
theorem cellsFrom_has : ∀ (names : List (Str × NameKind)) (n : Nat) (y : Str),(y,NameKind.cell) ∈ names → ∃ c,(cellsFrom n names []).lookup y = some c
  | (m,k) :: r,n,y,h => by
    unfold cellsFrom
    rcases List.mem_cons.mp h with e | e
    · cases e
      rw [if_pos (by rfl),cellsFrom_app]
      exact lookup_some_of_mem (List.mem_append_right _ (List.mem_singleton.mpr rfl))
    · split
      · rw [cellsFrom_app]
        obtain ⟨c,q⟩ := cellsFrom_has r (n + 1) y e
        exact lookup_some_of_mem (List.mem_append_left _ (mem_of_lookup q))
      · exact cellsFrom_has r n y e
section
variable {prog : Program} {w : World} {A : Around} {E : Value → Shared → Prop} {s : Shared}
theorem wpAny_closure {env : Env} (f : Str × NameKind → List (Str × Addr) → Sem (ForInStep (List (Str × Addr))))
    (hf : ∀ name kind cs,f (name,kind) cs = if kind == .free then (do let a ← cellOf env name; pure (.yield ((name,a) :: cs))) else pure (.yield cs)) :
    ∀ (names : List (Str × NameKind)) (acc : List (Str × Addr)),(∀ n,(n,NameKind.free) ∈ names → (env.cells.lookup n).isSome = true) → forIn names acc f = pure (clA env.cells names acc)
  | [],acc,_ => by rw [List.forIn_nil]; rfl
  | (n,k) :: r,acc,h => by
    rw [List.forIn_cons,hf]
    show _ = pure (clA env.cells r (clS env.cells (n,k) acc))
    have ih := fun acc => wpAny_closure f hf r acc fun m hm => h m (List.mem_cons_of_mem _ hm)
    by_cases hk : (k == .free) = true
    · obtain ⟨c,hc⟩ := Option.isSome_iff_exists.mp (h n (by rw [← beq_iff_eq.mp hk]; exact List.mem_cons_self))
      unfold cellOf
      rw [clS_yes _ _ hk,if_pos hk,hc]
      exact ih _
    · rw [clS_no _ _ hk,if_neg hk]
      exact ih _
theorem closure_of {env : Env} {sc : Scope} (h : ∀ n,(n,NameKind.free) ∈ sc.names → (env.cells.lookup n).isSome = true) : closureFor sc env = pure (clA env.cells sc.names []) := by
  unfold closureFor
  dsimp only
  rw [wpAny_closure (env := env) _ (fun name kind cells => rfl) sc.names [] h]
  rfl
noncomputable def compEnv' (sc : Scope) (L : Addr) (cs : List (Str × Addr)) (env : Env) : Env :=
  { scope := sc,locals := L,globals := env.globals,cells := cs,qual := env.qual,func := none,code := env.code,frame := env.frame,builtins := env.builtins }
theorem wpAny_compEnv {sc : Scope} {env : Env} {cl : List (Str × Addr)} {Q : Env → Shared → Prop}
    (hQ : Q (compEnv' sc s.heap.objs.size (cellsFrom (s.heap.objs.size + 1) sc.names cl) env) { s with heap := pushCells (s.heap.push { cls := .type "dict",data := .dict #[] }) sc.names }) :
    wpAny (model prog w) A (newFunctionEnv sc env.globals cl [] env.qual none .none (some env)) Q E s := by
  simp only [newFunctionEnv,Option.isSome_some,if_true]
  refine wpAny_bind (wpAny_alloc ?_)
  refine wpAny_bind (wpAny_layCells _ (fun name kind cells => by cases hkc : kind == NameKind.cell <;> simp) _ _ _ _ ?_)
  rw [show ({ s with heap := s.heap.push { cls := .type "dict",data := .dict #[] } } : Shared).heap.objs.size = s.heap.objs.size + 1 from Heap.size_push ..]
  refine wpAny_bind ?_
  rw [List.forIn_nil]
  exact wpAny_pure (wpAny_pure hQ)
end
section
variable {prog : Program} {w : World} {A : Around} {G : Gp} {X : Gx} {P : Par} {W : Wd} {h₀ : Heap} {F : Call}
theorem nodup_lookup : ∀ {l : List (Str × NameKind)},nodupNames l = true → ∀ {n : Str} {k : NameKind},(n,k) ∈ l → kindIn n l = some k
  | (m,j) :: r,hd,n,k,h => by
    have hd := Bool.and_eq_true_iff.mp (show ((kindIn m r).isNone && nodupNames r) = true from hd)
    rcases List.mem_cons.mp h with e | e
    · cases e
      exact kindIn_hit ((sEq_iff _ _).mpr rfl)
    · have ih := nodup_lookup hd.2 e
      by_cases q : sEq n m = true
      · rw [(sEq_iff _ _).mp q] at ih
        rw [ih] at hd
        cases hd.1
      · exact (kindIn_miss q).trans ih
theorem kindIn_mem {n : Str} {k : NameKind} : ∀ {l : List (Str × NameKind)},kindIn n l = some k → (n,k) ∈ l
  | (m,j) :: r,h => by
    by_cases q : sEq n m = true
    · cases (kindIn_hit q).symm.trans h; rw [(sEq_iff _ _).mp q]; exact List.mem_cons_self
    · exact List.mem_cons_of_mem _ (kindIn_mem ((kindIn_miss q).symm.trans h))
theorem freeOk_mem {Γ : Cx} {l : List (Str × NameKind)} (hd : freeOk Γ l = true) {n : Str} (h : (n,NameKind.free) ∈ l) : kindIn n Γ.names = some .cell :=
  beq_iff_eq.mp (Bool.and_eq_true_iff.mp (show (kindIn n Γ.names == some .cell && (idxOf? n Γ.ns).isSome) = true from List.all_eq_true.mp hd _ h)).1
theorem ownOk_mem {x : Str} {l : List (Str × NameKind)} (hd : ownOk x l = true) {n : Str} {k : NameKind} (h : (n,k) ∈ l) : (k = .local → n = x ∨ n = ".0") ∧ (k = .cell → n = x) := by
  have hd : ownK x n k = true := List.all_eq_true.mp hd _ h
  refine ⟨fun q => ?_,fun q => ?_⟩
  · subst q
    exact (Bool.or_eq_true_iff.mp hd).imp (sEq_iff _ _).mp (sEq_iff _ _).mp
  · subst q
    exact (sEq_iff _ _).mp hd
theorem relab_kind (outer : List (Str × NameKind)) (n : Str) : ∀ l : List (Str × NameKind),kindIn n (relab l outer) = (kindIn n l).map fun k => if k == .free && kindIn n outer == some .cell then .cell else k
  | [] => rfl
  | (m,k) :: r => by
    show kindIn n ((if k == NameKind.free && kindIn m outer == some .cell then (m,NameKind.cell) else (m,k)) :: relab r outer) = _
    by_cases q : sEq n m = true
    · have := (sEq_iff _ _).mp q
      subst this
      rw [kindIn_hit q,Option.map_some]
      by_cases z : (k == NameKind.free && kindIn n outer == some .cell) = true
      · rw [if_pos z,if_pos z,kindIn_hit q]
      · rw [if_neg z,if_neg z,kindIn_hit q]
    · rw [kindIn_miss q,← relab_kind outer n r]
      by_cases z : (k == NameKind.free && kindIn m outer == some .cell) = true
      · rw [if_pos z,kindIn_miss q]
      · rw [if_neg z,kindIn_miss q]
theorem relabel_names {Γ : Cx} {env : Env} {σ : Sig} {I : List Addr} {s : Shared} (f : FrameR W Γ env σ I h₀ s) (sc : Scope) : (relabel sc env).names = relab sc.names Γ.names := by
  show sc.names.map _ = sc.names.map _
  apply List.map_congr_left
  rintro ⟨n,k⟩ _
  simp only [f.kind,beq_self_eq_true,Bool.and_true,f.kindOf n]
structure CompOk (Γ : Cx) (x : Str) (sc : Scope) : Prop where
  kind : sc.kind = .function
  free : freeOk Γ sc.names = true
  own : ownOk x sc.names = true
  nodup : nodupNames sc.names = true
  zero : x ≠ ".0"
  zero' : idxOf? ".0" Γ.ns = none
  self : kindIn x sc.names = some .local ∨ kindIn x sc.names = some .cell
theorem compOk_of {Γ : Cx} {x : Str} {sc : Scope} (h : compOk Γ x sc = true) : CompOk Γ x sc := by
  simp only [compOk,Bool.and_eq_true,beq_iff_eq,Bool.not_eq_true',Option.isNone_iff_eq_none,Bool.or_eq_true] at h
  obtain ⟨⟨⟨⟨⟨⟨a,b⟩,c⟩,d⟩,e⟩,e'⟩,g⟩ := h
  refine ⟨a,b,c,d,fun q => ?_,e',g⟩
  rw [(sEq_iff _ _).mpr q] at e; cases e
theorem slot_own {Γ : Cx} {x : Str} {sc : Scope} (c : CompOk Γ x sc) : slotOf (cx1 Γ x sc) x = some 0 := by
  have z : idxOf? x (x :: Γ.ns) = some 0 := if_pos ((sEq_iff x x).mpr rfl)
  rcases c.self with q | q
  · exact slot_of (Γ := cx1 Γ x sc) (k := .local) ((relab_kind Γ.names x sc.names).trans (by rw [q]; rfl)) (.inl rfl) z
  · exact slot_of (Γ := cx1 Γ x sc) (k := .cell) ((relab_kind Γ.names x sc.names).trans (by rw [q]; rfl)) (.inr rfl) z
set_option tactic.hygienic true in
theorem comp_frame {Γ : Cx} {env : Env} {σ : Sig} {I : List Addr} {h : H} {s : Shared} {x : Str} {sc : Scope} (c : CompOk Γ x sc) (f : FrameR W Γ env σ I h₀ s) (R : Rel G h₀ I h s) {s' : Shared} {h' : Heap} {tk : Tok}
    (e : h' = pushCells (s.heap.push { cls := .type "dict",data := .dict #[] }) sc.names) (es : s' = { s with heap := h',toks := tk }) :
    let cenv := { compEnv' sc s.heap.objs.size (cellsFrom (s.heap.objs.size + 1) sc.names (clA env.cells sc.names [])) env with scope := relabel sc env }
    FrameR W (cx1 Γ x sc) cenv (none :: σ) I h₀ s' ∧ (∀ b,Own cenv b → s.heap.get? b = none ∨ Own env b) ∧ (∀ b,Stor cenv x b → s.heap.get? b = none) ∧ Rel G h₀ I h s' ∧ Ext NoP I s I s' := by
  intro cenv
  subst es
  have k1 : ∀ b o,s.heap.get? b = some o → (s.heap.push { cls := .type "dict",data := .dict #[] }).get? b = some o := fun b o q => Heap.get?_push_of_some _ q
  have k : ∀ b o,s.heap.get? b = some o → h'.get? b = some o := fun b o q => by rw [e]; exact pushCells_keeps _ _ b o (k1 b o q)
  have fresh : ∀ b,s.heap.objs.size ≤ b → s.heap.get? b = none := fun b hb => by
    cases q : s.heap.get? b with
    | none => rfl
    | some o => exact absurd (Heap.lt_size q) (Nat.not_lt.mpr hb)
  have ok := cellsFrom_ok sc.names (s.heap.push { cls := .type "dict",data := .dict #[] }) (s.heap.objs.size + 1) [] ⟨fun _ _ hm => (nomatch hm),List.Pairwise.nil⟩ (by rw [Heap.size_push]; exact Nat.le_refl _)
  rw [Heap.size_push] at ok
  have hcells : cenv.cells = cellsFrom (s.heap.objs.size + 1) sc.names [] ++ clA env.cells sc.names [] := cellsFrom_app ..
  have hfree : ∀ n,(n,NameKind.free) ∈ sc.names → ∃ d,env.cells.lookup n = some d ∧ (clA env.cells sc.names []).lookup n = some d := fun n hn => by
    obtain ⟨d,_,hd,_⟩ := f.cel n (freeOk_mem c.free hn)
    exact ⟨d,hd,by rw [clA_lookup hn,hd]; rfl⟩
  have hcl : ∀ n d,(clA env.cells sc.names []).lookup n = some d → env.cells.lookup n = some d := fun n d hd => by
    rcases clA_mem _ _ _ n d (mem_of_lookup hd) with q | ⟨q,hn⟩
    · cases q
    · obtain ⟨d',e1,e2⟩ := hfree n hn
      rw [hd] at e2; cases e2; exact e1
  have look : ∀ n d,cenv.cells.lookup n = some d → ((cellsFrom (s.heap.objs.size + 1) sc.names []).lookup n = some d) ∨ env.cells.lookup n = some d := fun n d hd => by
    rw [hcells,List.lookup_append] at hd
    cases q : (cellsFrom (s.heap.objs.size + 1) sc.names []).lookup n with
    | some d' => rw [q] at hd; exact .inl hd
    | none => rw [q] at hd; exact .inr (hcl n d hd)
  have ownLo : ∀ (n : Str) (d : Nat),(cellsFrom (s.heap.objs.size + 1) sc.names []).lookup n = some d → s.heap.objs.size + 1 ≤ d ∧ h'.IsCell d none := fun n d hd => by
    have := ok.empty n d (mem_of_lookup hd); exact ⟨this.2,by rw [e]; exact this.1⟩
  have oldLt : ∀ (n : Str) (d : Nat),env.cells.lookup n = some d → d < s.heap.objs.size := fun n d hd => by
    obtain ⟨o,ho⟩ := Option.isSome_iff_exists.mp (f.off n d hd).2
    exact Heap.lt_size ho
  have hns : h'.Ns s.heap.objs.size (fun _ => none) := by rw [e]; exact (Heap.Ns.new s.heap (.type "dict")).keeps (pushCells_keeps _ _)
  have alive : ∀ b,Own cenv b → (h'.get? b).isSome = true := fun b hb => by
    rcases hb with rfl | ⟨n,hn⟩
    · obtain ⟨o,_,_,ho,_⟩ := hns; exact (congrArg Option.isSome ho).trans rfl
    · rcases look n b hn with q | q
      · obtain ⟨o,ho,_⟩ := (ownLo n b q).2; rw [ho]; rfl
      · obtain ⟨o,ho⟩ := Option.isSome_iff_exists.mp (f.off n b q).2
        rw [k b o ho]; rfl
  have own : ∀ b,Own cenv b → s.heap.get? b = none ∨ Own env b := fun b hb => by
    rcases hb with rfl | ⟨n,hn⟩
    · exact .inl (fresh _ (Nat.le_refl _))
    · rcases look n b hn with q | q
      · exact .inl (fresh _ (by have := (ownLo n b q).1; (first | lia | omega)))
      · exact .inr (.inr ⟨n,q⟩)
  have stor : ∀ b,Stor cenv x b → s.heap.get? b = none := fun b hb => by
    rcases hb with rfl | hn
    · exact fresh _ (Nat.le_refl _)
    · rw [hcells,List.lookup_append] at hn
      cases q : (cellsFrom (s.heap.objs.size + 1) sc.names []).lookup x with
      | some d' =>
        rw [q] at hn
        have hd : d' = b := Option.some.inj hn
        subst hd
        exact fresh _ (Nat.le_of_succ_le (ownLo x d' q).1)
      | none =>
        rw [q] at hn
        rcases clA_mem _ _ _ x b (mem_of_lookup hn) with z | ⟨_,z⟩
        · cases z
        · have z1 := nodup_lookup c.nodup z
          rcases c.self with z2 | z2 <;> (rw [z1] at z2; cases z2)
  refine ⟨⟨c.kind,relabel_names f sc,f.gl,f.bl,⟨_,hns,fun y i v hy hi hv => ?_⟩,fun y hy => ?_,fun n n' d hn hn' => ?_,fun n d hd => ⟨?_,?_⟩,fun b hb => ?_⟩,own,stor,R.keeps k,Ext.keeps k⟩
  · exfalso
    simp only [cx1,relab_kind,Option.map_eq_some_iff] at hy
    obtain ⟨j,hj,hjk⟩ := hy
    have hloc : j = .local := by split at hjk <;> first | exact hjk | cases hjk
    subst hloc
    rcases (ownOk_mem c.own (kindIn_mem hj)).1 rfl with rfl | rfl
    · simp only [cx1,idxOf?,(sEq_iff y y).mpr rfl,if_true,Option.some.injEq] at hi
      subst hi
      simp at hv
    · have hne : sEq ".0" x = false := by
        cases q : sEq ".0" x with
        | false => rfl
        | true => exact absurd ((sEq_iff _ _).mp q).symm c.zero
      have hi := (idx_miss hne).symm.trans hi
      rw [c.zero'] at hi
      cases hi
  · simp only [cx1,relab_kind,Option.map_eq_some_iff] at hy
    obtain ⟨j,hj,hjk⟩ := hy
    have hjc : j = .cell ∨ (j = .free ∧ kindIn y Γ.names = some .cell) := by
      split at hjk
      · rename_i q
        simp only [Bool.and_eq_true,beq_iff_eq] at q
        exact .inr q
      · exact .inl hjk
    rcases hjc with rfl | ⟨rfl,hyc⟩
    · have hm := kindIn_mem hj
      have hyx := (ownOk_mem c.own hm).2 rfl
      subst hyx
      obtain ⟨d,hd⟩ := cellsFrom_has sc.names (s.heap.objs.size + 1) y hm
      refine ⟨d,none,by rw [hcells,List.lookup_append,hd]; rfl,(ownLo y d hd).2,fun i v hi hv => ?_⟩
      obtain rfl := Option.some.inj ((idx_hit ((sEq_iff y y).mpr rfl)).symm.trans hi)
      simp at hv
    · have hm := kindIn_mem hj
      obtain ⟨d,v₀,hd,hcell,hv₀⟩ := f.cel y hyc
      obtain ⟨d',e1,e2⟩ := hfree y hm
      rw [hd] at e1; cases e1
      have hno : (cellsFrom (s.heap.objs.size + 1) sc.names []).lookup y = none := by
        cases q : (cellsFrom (s.heap.objs.size + 1) sc.names []).lookup y with
        | none => rfl
        | some d2 =>
          have := nodup_lookup c.nodup (cellsFrom_mem _ _ _ _ (mem_of_lookup q))
          rw [hj] at this; cases this
      refine ⟨d,v₀,by rw [hcells,List.lookup_append,hno]; exact e2,hcell.keeps k,fun i v hi hv => ?_⟩
      have hne : sEq y x = false := by
        cases q : sEq y x with
        | false => rfl
        | true =>
          have := (sEq_iff _ _).mp q
          subst this
          rcases c.self with z | z <;> (rw [hj] at z; cases z)
      obtain ⟨i',hi',rfl⟩ := Option.map_eq_some_iff.mp ((idx_miss hne).symm.trans hi)
      exact hv₀ i' v hi' (by simpa using hv)
  · rcases look n d hn with q | q <;> rcases look n' d hn' with q' | q'
    · exact name_of_addr ok.apart (mem_of_lookup q) (mem_of_lookup q')
    · exact absurd (oldLt n' d q') (Nat.not_lt.mpr (Nat.le_of_succ_le (ownLo n d q).1))
    · exact absurd (oldLt n d q) (Nat.not_lt.mpr (Nat.le_of_succ_le (ownLo n' d q').1))
    · exact f.apart n n' d q q'
  · show d ≠ s.heap.objs.size
    rcases look n d hd with q | q
    · exact Nat.ne_of_gt (ownLo n d q).1
    · exact Nat.ne_of_lt (oldLt n d q)
  · exact alive d (.inr ⟨n,hd⟩)
  · rcases own b hb with q | q
    · exact R.notMem q
    · exact f.own b q
end
noncomputable def compFA (P : Par) (F : Call) (elt : ME) (ifs : MEs) (σ : Sig) : V → H → Option (Option V × H) := compG (xT P F ifs σ) (xE P F elt σ)
theorem Wk.live {C : Nat → Option O} {I : List Addr} {it : Addr} {T : It} {fp : List Addr} {st : Nat → Heap → Prop} (x : Wk C I it T fp st) {i : Nat} {hp : Heap} (y : st i hp) : ∃ o,hp.get? it = some o := by
  cases x with
  | rng a b c ok h => exact ⟨_,y⟩
  | lst v l xs h => obtain ⟨o,ho,_⟩ := y; exact ⟨o,ho⟩
  | tup v l xs h => obtain ⟨o,ho,_⟩ := y; exact ⟨o,ho⟩
  | tmp t us xs ok h n => obtain ⟨⟨o,ho,_⟩,_⟩ := y; exact ⟨o,ho⟩
section
variable {prog : Program} {w : World} {A : Around} {G : Gp} {X : Gx} {P : Par} {W : Wd} {h₀ : Heap} {F : Call}
theorem tests_skip {env : Env} : ∀ (ifs : List PySem.Expr),(forIn ifs false fun c r => if r = true then do let ok ← isTrue c env (eval c env); pure (ForInStep.yield ok) else pure (ForInStep.yield r) : Sem Bool) = pure false
  | [] => rfl
  | x :: r => by rw [List.forIn_cons]; simp only [Bool.false_eq_true,if_false,pure_bind]; exact tests_skip r
theorem tests_sound : ∀ (ifs : List PySem.Expr),(∀ e ∈ ifs,SndT prog w A G X P W h₀ F e) →
    ∀ (Γ : Cx) (env : Env) (σ : Sig) (I : List Addr) (h : H) (s : Shared) (K : Bool → H → Prop) (Q : Bool → Shared → Prop) (E : Value → Shared → Prop),FrameR W Γ env σ I h₀ s → Rel G h₀ I h s → wT P F (trEs X Γ ifs) σ h K →
    (∀ I1 s1 b h1,Ext NoP I s I1 s1 → Rel G h₀ I1 h1 s1 → K b h1 → Q b s1) →
    wpAny (model prog w) A (forIn ifs true fun c r => if r = true then do let ok ← isTrue c env (eval c env); pure (ForInStep.yield ok) else pure (ForInStep.yield r)) Q E s
  | [],_,Γ,env,σ,I,h,s,K,Q,E,f,R,w',hq => by
    rw [List.forIn_nil]
    exact wpAny_pure (hq _ _ _ _ .refl R w')
  | x :: r,hx,Γ,env,σ,I,h,s,K,Q,E,f,R,w',hq => by
    have ih := tests_sound r fun z hz => hx z (List.mem_cons_of_mem _ hz)
    rw [List.forIn_cons]
    simp only [if_true]
    refine wpAny_bind (wpAny_bind (hx x List.mem_cons_self Γ env σ I h s _ _ _ f R w' (kT_ite (fun _ _ k => k) (fun I1 s1 h1 X1 R1 w' => wpAny_pure ?_) fun I1 s1 h1 X1 R1 k => wpAny_pure ?_)))
    · exact ih Γ env σ I1 h1 s1 K Q E (f.ext0 X1) R1 w' fun I2 s2 b h2 X2 R2 k => hq I2 s2 b h2 (X1.trans X2) R2 k
    · dsimp only
      rw [tests_skip]
      exact wpAny_pure (hq I1 s1 false h1 X1 R1 k)
theorem Rel.off {I : List Addr} {h : H} {s : Shared} (R : Rel G h₀ I h s) {h' : Heap} {tk : Tok} {b : Addr} (hb : b ∉ I) (h0 : h₀.get? b = none) (k : ∀ c o,c ≠ b → s.heap.get? c = some o → h'.get? c = some o) :
    Rel G h₀ I h { s with heap := h',toks := tk } :=
  R.outside fun c o hc e => k c o (by
    rintro rfl
    rcases hc with q | q
    · exact hb q
    · rw [h0] at q; exact ff q) e
theorem Ext.one {I : List Addr} {s : Shared} {h' : Heap} {tk : Tok} {b : Addr} (k : ∀ c o,c ≠ b → s.heap.get? c = some o → h'.get? c = some o) :
    Ext (fun c => c = b) I s I { s with heap := h',toks := tk } := by
  refine ⟨⟨_,_,rfl⟩,List.prefix_refl _,fun _ q => .inl q,fun c o _ hc e => k c o hc e,fun c hcb e => ?_,fun _ q => .inl q⟩
  cases q : s.heap.get? c with
  | none => rfl
  | some o => rw [show h'.get? c = some o from k c o hcb q] at e; cases e
theorem compL_nil {f : V → H → Option (Option V × H)} {ok : H → Bool} {h h' : H} {vs : List V} (e : compL f ok [] h = some (vs,h')) : ok h = true ∧ vs = [] ∧ h' = h := by
  obtain ⟨a,e⟩ := if_inv (show (if ok h = true then some ([],h) else none) = some (vs,h') from e)
  obtain ⟨rfl,rfl⟩ := two_inv e
  exact ⟨a,rfl,rfl⟩
theorem compL_cons {f : V → H → Option (Option V × H)} {ok : H → Bool} {h h' : H} {x : V} {xs vs : List V} (e : compL f ok (x :: xs) h = some (vs,h')) : ok h = true ∧ ∃ r h1 rs,f x h = some (r,h1) ∧ compL f ok xs h1 = some (rs,h') ∧ withV r rs = vs := by
  obtain ⟨a,e⟩ := if_inv e
  obtain ⟨r,h1,e1,e⟩ := bo_inv e
  obtain ⟨rs,h2,e2,e⟩ := bo_inv e
  obtain ⟨b,rfl⟩ := two_inv e
  exact ⟨a,r,h1,rs,e1,e2,b⟩
noncomputable def kCF (P : Par) (F : Call) (elt : ME) (σ : Sig) (A : Option V → H → Prop) (b : Bool) (h : H) : Prop := match b with
  | true => wE P F elt σ h fun v h => A (some v) h
  | false => A none h
theorem compFA_c {elt : ME} {ifs : MEs} {σ : Sig} {x : V} {h h1 : H} {r : Option V} {A : Option V → H → Prop} (e : compFA P F elt ifs σ x h = some (r,h1)) (q : A r h1) : wT P F ifs (some x :: σ) h (kCF P F elt (some x :: σ) A) := by
  obtain ⟨b,h4,e1,e⟩ := bo_inv e
  refine wT_c _ e1 ?_
  cases b with
  | false => cases e; exact q
  | true => obtain ⟨v,h5,e2,e⟩ := bo_inv e; cases e; exact wE_c elt e2 q
noncomputable def QC (cenv : Env) (x : Str) (it D : Addr) : Addr → Prop := fun b => Stor cenv x b ∨ b = it ∨ b = D
inductive CRest (g : V → H → Option (Option V × H)) (ok : H → Bool) (xs rs' : List V) (h2 : H) (rs : List V) (r : Option V) (h' : H) : Prop
  | mk (e : compL g ok xs h' = some (rs',h2)) (q : withV r rs' = rs) : CRest g ok xs rs' h2 rs r h'
inductive JC (W : Wd) (G : Gp) (h₀ : Heap) (Γ' : Cx) (cenv : Env) (x : Str) (σ : Sig) (I2 : List Addr) (s4 : Shared) (it D : Addr) (T : It) (st : Nat → Heap → Prop) (g : V → H → Option (Option V × H)) (vs : List V) (h2 : H) (k : Nat) (s : Shared) : Prop
  | mk (I : List Addr) (h : H) (i : Nat) (d : Option V) (us : List Value) (n : Nat) (acc rs : List V) (X0 : Ext (QC cenv x it D) I2 s4 I s) (R0 : Rel G h₀ I h s) (f0 : FrameR W Γ' cenv (d :: σ) I h₀ s) (st0 : st i s.heap) (gD : s.heap.get? D = some (listOf us.toArray n)) (l0 : LR I acc us)
    (e0 : compL g T.ok (T.xs.drop i) h = some (rs,h2)) (ea : acc ++ rs = vs) (hi : i ≤ T.xs.length) (hk : k = T.xs.length + 1 - i) : JC W G h₀ Γ' cenv x σ I2 s4 it D T st g vs h2 k s
theorem comp_loop (B : Bd prog w A G X P W h₀ F) {elt iter : PySem.Expr} {x : Str} {px : Pos} {ifs : List PySem.Expr} {sc : Scope} {pos : Pos} (helt : SndE prog w A G X P W h₀ F elt) (hifs : ∀ e ∈ ifs,SndT prog w A G X P W h₀ F e)
    {Γ' : Cx} {cenv : Env} {σ : Sig} {I2 : List Addr} {s4 : Shared} {it D : Addr} {T : It} {fp : List Addr} {st : Nat → Heap → Prop} {R : Result → Shared → Prop} {vs : List V} {h2 : H} {h1 : H} {d0 : Option V}
    (hx0 : slotOf Γ' x = some 0) (f4 : FrameR W Γ' cenv (d0 :: σ) I2 h₀ s4) (R4 : Rel G h₀ I2 h1 s4) (wk : Wk P.C I2 it T fp st) (st4 : st 0 s4.heap)
    (hfp : ∀ b ∈ fp,b ∉ I2 ∧ h₀.get? b = none ∧ ¬ Own cenv b ∧ b ≠ D ∧ (s4.heap.get? b).isSome = true) (hD : D ∉ I2 ∧ h₀.get? D = none ∧ ¬ Own cenv D) (hD4 : s4.heap.get? D = some (listOf [].toArray 0))
    (e : compL (compFA P F (trE X Γ' elt) (trEs X Γ' ifs) σ) T.ok T.xs h1 = some (vs,h2)) (hlen : vs.length ≤ lenMax)
    (hR : ∀ I' s' us n d,Ext (QC cenv x it D) I2 s4 I' s' → Rel G h₀ I' h2 s' → FrameR W Γ' cenv (d :: σ) I' h₀ s' → s'.heap.get? D = some (listOf us.toArray n) → LR I' vs us → D ∉ I' → R (.ok .next) s') :
    codeAny (model prog w) A (.compLoop (.ListComp elt [⟨.Name x px,iter,ifs,0⟩] sc pos) 0 (.ref it) (.ref D) cenv) R s4 := by
  refine codeAny_compLoop_tests
    (JC W G h₀ Γ' cenv x σ I2 s4 it D T st (compFA P F (trE X Γ' elt) (trEs X Γ' ifs) σ) vs h2) ?_ (T.xs.length + 1)
    ⟨I2,h1,0,d0,[],0,[],vs,.refl,R4,f4,st4,hD4,.nil,by simpa using e,by simp,Nat.zero_le _,rfl⟩
  rintro k s ⟨I,h,i,d,us,n,acc,rs,X0,R0,f0,st0,gD,l0,e0,ea,hi,rfl⟩
  have wk0 := wk.mono X0.pre
  have hit := wk.mem
  have out : ∀ b,b ∉ I2 → (s4.heap.get? b).isSome = true → b ∉ I := fun b hb hl => by
    obtain ⟨o,ho⟩ := Option.isSome_iff_exists.mp hl
    exact X0.out hb ho
  have hfpI : ∀ b ∈ fp,b ∉ I := fun b hb => out b (hfp b hb).1 (hfp b hb).2.2.2.2
  have hitI : it ∉ I := hfpI it hit
  have hDI : D ∉ I := out D hD.1 (by rw [hD4]; rfl)
  have hitD : it ≠ D := (hfp it hit).2.2.2.1
  have hito : ¬ Own cenv it := (hfp it hit).2.2.1
  have notP : ∀ {I' : List Addr} {s' : Shared} {Γ'' : Cx} {σ'' : Sig},FrameR W Γ'' cenv σ'' I' h₀ s' → it ∉ I' → D ∉ I' → ∀ b,QC cenv x it D b → b ∉ I' := fun f a c b hb => by
    rcases hb with q | rfl | rfl
    · exact (f.own b q.own).1
    · exact a
    · exact c
  cases hv : T.xs[i]? with
  | none =>
    have hl := List.getElem?_eq_none_iff.mp hv
    rw [List.drop_of_length_le hl] at e0
    obtain ⟨hok,rfl,rfl⟩ := compL_nil e0
    rw [List.append_nil] at ea
    subst ea
    refine wk0.fin B.con B.hh R0 st0 hok hv hi fun hp he => ?_
    have k1 : ∀ c o,c ≠ it → s.heap.get? c = some o → hp.get? c = some o := fun c o hc q => he c o hc q
    have X1 : Ext (fun c => c = it) I s I { s with heap := hp } := Ext.one (tk := s.toks) k1
    have f1 := f0.ext X1 fun b hb q => hito (q ▸ hb)
    exact hR I _ us n d (X0.trans (X1.mono (fun b q => .inr (.inl q)) (notP f1 hitI hDI))) (R0.off (tk := s.toks) hitI (hfp it hit).2.1 k1) f1 (k1 D _ hitD.symm gD) l0 hDI
  | some v =>
    have hlt := (List.getElem?_eq_some_iff.mp hv).1
    have hdrop : T.xs.drop i = v :: T.xs.drop (i + 1) := by
      rw [List.drop_eq_getElem_cons hlt]
      congr 1
      exact (List.getElem?_eq_some_iff.mp hv).2
    rw [hdrop] at e0
    obtain ⟨hok,r,h3,rs',er,erest,ers⟩ := compL_cons e0
    refine wk0.next B.con R0 st0 hok hv fun v' hp tk hv' st1 hs => ?_
    have k1 : ∀ c o,c ≠ it → s.heap.get? c = some o → hp.get? c = some o := fun c o hc q => hs.extBut c o hc q
    have X1 : Ext (fun c => c = it) I s I { s with heap := hp,toks := tk } := Ext.one k1
    have f1 := f0.ext X1 fun b hb q => hito (q ▸ hb)
    have R1 : Rel G h₀ I h { s with heap := hp,toks := tk } := R0.off hitI (hfp it hit).2.1 k1
    have Y1 := X1.mono (fun b q => .inr (.inl q)) (notP f1 hitI hDI)
    refine wpAny_assign_Name (store_slot R1 f1 hx0 hv' fun s2 R2 f2 X2 => ?_)
    have Y2 := X2.mono (Q := QC cenv x it D) (fun b q => .inl q) (notP f2 hitI hDI)
    simp only [List.set_cons_zero] at f2
    have st2 : st (i + 1) s2.heap := wk0.frame st1 fun b hb o q => X2.keep b o (hfpI b hb) (fun z => (hfp b hb).2.2.1 z.own) q
    have gD2 : s2.heap.get? D = some (listOf us.toArray n) := X2.keep D _ hDI (fun z => hD.2.2 z.own) (k1 D _ hitD.symm gD)
    have Y02 := (X0.trans Y1).trans Y2
    refine tests_sound ifs hifs Γ' cenv _ I h s2 _ _ _ f2 R2 (compFA_c (A := CRest (compFA P F (trE X Γ' elt) (trEs X Γ' ifs) σ) T.ok (T.xs.drop (i + 1)) rs' h2 rs) er ⟨erest,ers⟩) fun I3 s3 c h4 X3 R3 kk => ?_
    cases c with
    | true =>
      simp only [if_true]
      have f3 := f2.ext0 X3
      refine helt Γ' cenv _ I3 h4 s3 _ _ _ f3 R3 kk fun I5 s5 y h5 y' X5 R5 hy ⟨erest,ers⟩ => ?_
      have f5 := f3.ext0 X5
      have hit3 : it ∉ I3 := X3.out hitI (wk0.live st2).choose_spec
      have st3 : st (i + 1) s3.heap := wk0.frame st2 fun b hb o q => X3.keep b o (hfpI b hb) (fun z => z) q
      have hit5 : it ∉ I5 := X5.out hit3 (wk0.live st3).choose_spec
      have hD3 : D ∉ I3 := X3.out hDI gD2
      have gD3 := X3.keep D _ hDI (fun z => z) gD2
      have hD5 : D ∉ I5 := X5.out hD3 gD3
      have gD5 := X5.keep D _ hD3 (fun z => z) gD3
      have hfp3 : ∀ b ∈ fp,b ∉ I3 := fun b hb => by
        obtain ⟨o,ho⟩ := Option.isSome_iff_exists.mp (hfp b hb).2.2.2.2
        exact ((Y02.trans (X3.mono (fun _ q => q.elim) (notP f3 hit3 hD3))).out (hfp b hb).1 ho)
      have st5 : st (i + 1) s5.heap := wk0.frame st3 fun b hb o q => X5.keep b o (hfp3 b hb) (fun z => z) q
      have hlen' : us.length ≤ lenMax := by
        have h1 := l0.1
        have h2 : acc.length ≤ vs.length := by rw [← ea]; simp
        (first | lia | omega)
      refine append_at gD5 (fun hp' hs' hg => ?_) (size_line (by rw [List.size_toArray]; exact hlen'))
      have k6 : ∀ c o,c ≠ D → s5.heap.get? c = some o → hp'.get? c = some o := fun c o hc q => hs'.extBut c o hc q
      have X6 : Ext (fun c => c = D) I5 s5 I5 { s5 with heap := hp' } := Ext.one (tk := s5.toks) k6
      have f6 := f5.ext X6 fun b hb q => hD.2.2 (q ▸ hb)
      have R6 : Rel G h₀ I5 h5 { s5 with heap := hp' } := R5.off (tk := s5.toks) hD5 hD.2.1 k6
      refine ⟨T.xs.length + 1 - (i + 1),by (first | lia | omega),I5,h5,i + 1,some v,us ++ [y'],n + 1,acc ++ [y],rs',?_,R6,f6,?_,?_,?_,erest,?_,hlt,rfl⟩
      · exact Y02.trans ((X3.mono (fun _ q => q.elim) (notP f3 hit3 hD3)).trans ((X5.mono (fun _ q => q.elim) (notP f5 hit5 hD5)).trans (X6.mono (fun b q => .inr (.inr q)) (notP f6 hit5 hD5))))
      · exact wk0.frame st5 fun b hb o q => k6 b o (hfp b hb).2.2.2.1 q
      · rw [show (us ++ [y']).toArray = us.toArray.push y' by simp]; exact hg
      · exact ((l0.mono X3.pre).mono X5.pre).append (.one hy)
      · rw [← ea,← ers,List.append_assoc]; rfl
    | false =>
      obtain ⟨erest,ers⟩ := kk
      simp only [Bool.false_eq_true,if_false]
      have f3 := f2.ext0 X3
      have hit3 : it ∉ I3 := X3.out hitI (wk0.live st2).choose_spec
      have hD3 : D ∉ I3 := X3.out hDI gD2
      refine ⟨T.xs.length + 1 - (i + 1),by (first | lia | omega),I3,h4,i + 1,some v,us,n,acc,rs',?_,R3,f3,?_,X3.keep D _ hDI (fun z => z) gD2,l0.mono X3.pre,erest,?_,hlt,rfl⟩
      · exact Y02.trans (X3.mono (fun _ q => q.elim) (notP f3 hit3 hD3))
      · exact wk0.frame st2 fun b hb o q => X3.keep b o (hfpI b hb) (fun z => z) q
      · rw [← ea,← ers]; rfl
end
section
variable {prog : Program} {w : World} {A : Around} {G : Gp} {X : Gx} {P : Par} {W : Wd} {h₀ : Heap} {F : Call}
theorem not_set {Γ : Cx} {e : PySem.Expr} {env : Env} {σ : Sig} {h : H} {K : It → H → Prop} (q : wI P F (toI' e (trE X Γ e)) σ h K) : ∀ x,foldedSetIterable e env x = pure x := by
  cases e <;> first | (intro _; rfl) | exact q.elim
theorem Ext.freshOr {Q Q' : Addr → Prop} {I I' : List Addr} {s s' : Shared} (x : Ext Q I s I' s') (hq : ∀ b,Q b → Q' b ∨ s.heap.get? b = none) (hq' : ∀ b,Q' b → Q b) : Ext Q' I s I' s' := by
  refine ⟨x.same,x.pre,x.new,fun b o a c e => x.keep b o a (fun q => ?_) e,fun b c e => ?_,fun b hb => (x.off b hb).imp id fun z q => z (hq' b q)⟩
  · rcases hq b q with z | z
    · exact c z
    · rw [z] at e; exact nn e
  · by_cases q : Q b
    · rcases hq b q with z | z
      · exact absurd z c
      · exact z
    · exact x.live b q e
theorem comp_core (B : Bd prog w A G X P W h₀ F) {elt iter : PySem.Expr} {x : Str} {px : Pos} {ifs : List PySem.Expr} {sc : Scope} {pos : Pos} (helt : SndE prog w A G X P W h₀ F elt) (hifs : ∀ e ∈ ifs,SndT prog w A G X P W h₀ F e)
    {Γ : Cx} {env : Env} {σ : Sig} {I I1 : List Addr} {h1 : H} {s s2 : Shared} {it : Addr} {T : It} {fp : List Addr} {st : Nat → Heap → Prop} {vs : List V} {h2 : H} {RR : Value → Addr → Result → Shared → Prop} {E : Value → Shared → Prop}
    (c : CompOk Γ x sc) (f : FrameR W Γ env σ I h₀ s) (X1 : Ext NoP I s I1 s2) (R2 : Rel G h₀ I1 h1 s2) (wk : Wk P.C I1 it T fp st) (st2 : st 0 s2.heap)
    (hfp : ∀ b ∈ fp,s.heap.get? b = none ∧ (s2.heap.get? b).isSome = true ∧ b ∉ I1 ∧ h₀.get? b = none)
    (e : compL (compFA P F (trE X (cx1 Γ x sc) elt) (trEs X (cx1 Γ x sc) ifs) σ) T.ok T.xs h1 = some (vs,h2)) (hlen : vs.length ≤ lenMax)
    (hR : ∀ I' s' D L us n m,Ext NoP I s I' s' → Ext (fun b => b = it) I1 s2 I' s' → Rel G h₀ I' h2 s' → FrameR W Γ env σ I' h₀ s' → s'.heap.get? D = some (listOf us.toArray n) → LR I' vs us → D ∉ I' → h₀.get? D = none → s.heap.get? D = none → s2.heap.get? D = none →
      s'.heap.Ns L m → L ∉ I' → h₀.get? L = none → L ≠ D → s.heap.get? L = none → RR (.ref D) L (.ok .next) s') :
    wpAny (model prog w) A (newList []) (fun acc s₃ => wpAny (model prog w) A (newFunctionEnv sc env.globals (clA env.cells sc.names []) [] env.qual none .none (some env)) (fun cenv s₄ =>
      codeAny (model prog w) A (.compStart (.ListComp elt [⟨.Name x px,iter,ifs,0⟩] sc pos) 0 (.ref it) acc { cenv with scope := relabel sc env }) (RR acc cenv.locals) s₄) E s₃) E s2 := by
  refine wpAny_newObj_type (wpAny_compEnv ?_)
  have kD : ∀ b o,s2.heap.get? b = some o → (s2.heap.push { cls := .type "list",dict := none,data := .seq ([] : List Value).toArray }).get? b = some o := fun b o q => Heap.get?_push_of_some _ q
  have XD : Ext NoP I1 s2 I1 { s2 with heap := s2.heap.push { cls := .type "list",dict := none,data := .seq ([] : List Value).toArray },toks := s2.toks } := Ext.keeps kD
  have RD : Rel G h₀ I1 h1 { s2 with heap := s2.heap.push { cls := .type "list",dict := none,data := .seq ([] : List Value).toArray },toks := s2.toks } := R2.keeps kD
  have f1 := f.ext0 X1
  have fD := f1.ext0 XD
  have gD : (s2.heap.push { cls := .type "list",dict := none,data := .seq ([] : List Value).toArray }).get? s2.heap.objs.size = some (listOf [].toArray 0) := Heap.get?_push_size _ rfl
  have hDn : s2.heap.get? s2.heap.objs.size = none := get_none_of_size
  have hDs : s.heap.get? s2.heap.objs.size = none := X1.live _ (fun q => q) hDn
  have hDm := R2.notMem hDn
  obtain ⟨fC,ownC,storC,RC,XC⟩ := comp_frame (tk := s2.toks) c fD RD rfl rfl
  revert fC ownC storC RC XC
  generalize hcenv : ({ compEnv' sc (s2.heap.push { cls := .type "list",dict := none,data := .seq ([] : List Value).toArray }).objs.size (cellsFrom ((s2.heap.push { cls := .type "list",dict := none,data := .seq ([] : List Value).toArray }).objs.size + 1) sc.names (clA env.cells sc.names [])) env with scope := relabel sc env } : Env) = cenv
  intro fC ownC storC RC XC
  have hl0 : cenv.locals = (s2.heap.push { cls := .type "list",dict := none,data := .seq ([] : List Value).toArray }).objs.size := by rw [← hcenv]; rfl
  have gD4 := XC.keep s2.heap.objs.size _ hDm.1 (fun q => q) gD
  have hown : ∀ b,Own cenv b → b ≠ s2.heap.objs.size ∧ b ∉ fp := fun b hb => by
    rcases ownC b hb with q | q
    · refine ⟨fun z => ?_,fun z => ?_⟩
      · subst z; rw [show (s2.heap.push _).get? s2.heap.objs.size = _ from gD] at q; cases q
      · obtain ⟨o,ho⟩ := Option.isSome_iff_exists.mp (hfp b z).2.1
        rw [show (s2.heap.push _).get? b = some o from kD b o ho] at q; cases q
    · obtain ⟨o,ho⟩ := Option.isSome_iff_exists.mp (f.alive q)
      refine ⟨fun z => ?_,fun z => ?_⟩
      · subst z; rw [hDs] at ho; exact nn ho
      · rw [(hfp b z).1] at ho; exact nn ho
  have hC := (ownC cenv.locals (.inl rfl))
  have hCn : s2.heap.get? cenv.locals = none := by rw [hl0]; exact (XD.live _ (fun q => q) get_none_of_size)
  have X04 := X1.trans (XD.trans XC)
  have loop : ∀ s4 : Shared,FrameR W (cx1 Γ x sc) cenv (none :: σ) I1 h₀ s4 → Rel G h₀ I1 h1 s4 → st 0 s4.heap → (∀ b ∈ fp,(s4.heap.get? b).isSome = true) → s4.heap.get? s2.heap.objs.size = some (listOf [].toArray 0) → Ext NoP I s I1 s4 → Ext NoP I1 s2 I1 s4 →
      codeAny (model prog w) A (.compLoop (.ListComp elt [⟨.Name x px,iter,ifs,0⟩] sc pos) 0 (.ref it) (.ref s2.heap.objs.size) cenv) (RR (.ref s2.heap.objs.size) cenv.locals) s4 := by
    intro s4 f4 R4 st4 hl4 gD4 X4 X24
    refine comp_loop B helt hifs (slot_own c) f4 R4 wk st4 (fun b hb => ⟨(hfp b hb).2.2.1,(hfp b hb).2.2.2,fun z => (hown b z).2 hb,fun z => ?_,hl4 b hb⟩) ⟨hDm.1,hDm.2,fun z => (hown _ z).1 rfl⟩ gD4 e hlen fun I' s' us n d XL RL fL gL lL hDL => ?_
    · subst z; have := (hfp _ hb).2.1; rw [hDn] at this; exact ff this
    · have XX : Ext NoP I s I' s' := by
        have X4' := X4.mono (Q := fun b => Stor cenv x b ∨ b = it ∨ b = s2.heap.objs.size) (fun _ q => q.elim) fun b hb => by
          rcases hb with q | rfl | rfl
          · exact (f4.own b q.own).1
          · exact (hfp _ wk.mem).2.2.1
          · exact hDm.1
        refine (X4'.trans XL).fresh fun b hb => ?_
        rcases hb with q | rfl | rfl
        · exact X1.live _ (fun z => z) (XD.live _ (fun z => z) (storC b q))
        · exact (hfp _ wk.mem).1
        · exact hDs
      obtain ⟨m,hm,_⟩ := fL.loc
      have X2 : Ext (fun b => b = it) I1 s2 I' s' := by
        have X24' := X24.mono (Q := fun b => Stor cenv x b ∨ b = it ∨ b = s2.heap.objs.size) (fun _ q => q.elim) fun b hb => by
          rcases hb with q | rfl | rfl
          · exact (f4.own b q.own).1
          · exact (hfp _ wk.mem).2.2.1
          · exact hDm.1
        refine (X24'.trans XL).freshOr (fun b hb => ?_) fun b hb => .inr (.inl hb)
        rcases hb with q | rfl | rfl
        · exact .inr (XD.live _ (fun z => z) (storC b q))
        · exact .inl rfl
        · exact .inr hDn
      exact hR I' s' _ _ us n m XX X2 RL (f.ext0 XX) gL lL hDL hDm.2 hDs hDn hm (fL.own _ (.inl rfl)).1 (fL.own _ (.inl rfl)).2 (hown _ (.inl rfl)).1 (X1.live _ (fun z => z) hCn)
  have st4 : st 0 (pushCells _ sc.names) := wk.frame st2 fun b hb o q => XC.keep b o (hfp b hb).2.2.1 (fun z => z) (kD b o q)
  have hl4 : ∀ b ∈ fp,((pushCells _ sc.names).get? b).isSome = true := fun b hb => by
    obtain ⟨o,ho⟩ := Option.isSome_iff_exists.mp (hfp b hb).2.1
    exact (congrArg Option.isSome (XC.keep b o (hfp b hb).2.2.1 (fun z => z) (kD b o ho))).trans rfl
  have key := loop _ fC RC st4 hl4 gD4 X04 (XD.trans XC)
  have key2 : codeAny (model prog w) A (.compLoop (.ListComp elt [⟨.Name x px,iter,ifs,0⟩] sc pos) 0 (.ref it) (.ref s2.heap.objs.size) cenv) (RR (.ref s2.heap.objs.size) (s2.heap.push { cls := .type "list",dict := none,data := .seq ([] : List Value).toArray }).objs.size) _ := hl0 ▸ key
  exact codeAny_compStart_list key2 (wk.self st4 key2)
theorem comp_names {Γ : Cx} {x : Str} {sc : Scope} (c : CompOk Γ x sc) : ∀ y ∈ sc.names,y.2 = .local → sc.names.lookup y.1 = some .local := by
  rintro ⟨n,k⟩ hy hk
  rw [← kindIn_eq,nodup_lookup c.nodup hy]
  exact congrArg some hk
theorem comp_closure {Γ : Cx} {x : Str} {sc : Scope} {env : Env} {σ : Sig} {I : List Addr} {s : Shared} (c : CompOk Γ x sc) (f : FrameR W Γ env σ I h₀ s) : closureFor sc env = pure (clA env.cells sc.names []) :=
  closure_of fun n hn => by
    obtain ⟨d,_,hd,_⟩ := f.cel n (freeOk_mem c.free hn)
    rw [hd]; rfl
theorem snd_comp (B : Bd prog w A G X P W h₀ F) {elt iter : PySem.Expr} {x : Str} {px : Pos} {ifs : List PySem.Expr} {sc : Scope} {pos : Pos} (hit : SndI prog w A G X P W h₀ F iter) (helt : SndE prog w A G X P W h₀ F elt)
    (hifs : ∀ e ∈ ifs,SndT prog w A G X P W h₀ F e) : SndE prog w A G X P W h₀ F (.ListComp elt [⟨.Name x px,iter,ifs,0⟩] sc pos) := fun Γ env σ I h s K Q E f R w' hq => by
  have w0 := gME_w w'
  have c := compOk_of (Bool.and_eq_true_iff.mp w0.1).2
  rw [eval_ListComp]
  refine wpAny_comprehension_free (use := none) rfl (not_set w0.2) (comp_closure c f) c.kind (comp_names c) ?_
  refine hit Γ env σ I h s _ _ _ f R w0.2 fun T h1 ⟨vs,h2,e2,hlen,kk⟩ I1 s2 it fp st X1 R2 wk st0 hfp => ?_
  refine comp_core B (h2 := h2) (vs := vs) helt hifs c f X1 R2 wk st0 hfp e2 hlen fun I' s' D L us n m XX X2 RL fL gL lL hDI hD0 hDs hDs2 hm hLI hL0 hLD hLs => ?_
  refine ⟨m,hm,fun hp hs => hq.pv .refl kk _ _ ?_⟩
  have k3 : ∀ c o,c ≠ L → s'.heap.get? c = some o → hp.get? c = some o := fun c o hc q => hs.extBut c o hc q
  have X3 : Ext (fun c => c = L) I' s' I' { s' with heap := hp } := Ext.one (tk := s'.toks) k3
  have R3 : Rel G h₀ I' h2 { s' with heap := hp } := RL.off (tk := s'.toks) hLI hL0 k3
  have R4 := R3.adopt hDI hD0 (k3 D _ hLD.symm gL) (o := .lst vs) ⟨us,n,rfl,lL.mono (List.prefix_append _ _)⟩
  have hitI : it ∉ I' := by obtain ⟨o,ho⟩ := wk.live st0; exact X2.out (hfp it wk.mem).2.2.1 ho
  have X23 : Ext (fun b => b = it ∨ b = L) I1 s2 I' { s' with heap := hp } :=
    (X2.mono (fun b q => .inl q) fun b hb => by rcases hb with rfl | rfl; exact hitI; exact hLI).trans (X3.mono (fun b q => .inr q) fun b hb => by rcases hb with rfl | rfl; exact hitI; exact hLI)
  have hDne : ¬ (D = it ∨ D = L) := by
    rintro (q | q)
    · subst q; have := (hfp _ wk.mem).2.1; rw [hDs2] at this; exact ff this
    · exact hLD q.symm
  have X4 : Ext (fun b => b = it ∨ b = L) I1 s2 (I' ++ [D]) { s' with heap := hp } := by
    refine ⟨X23.same,X23.pre.trans (List.prefix_append _ _),fun b hb => ?_,X23.keep,X23.live,fun b hb => ?_⟩
    · rcases List.mem_append.mp hb with q | q
      · exact X23.new b q
      · rw [List.mem_singleton.mp q]; exact .inr hDs2
    · rcases List.mem_append.mp hb with q | q
      · exact X23.off b q
      · rw [List.mem_singleton.mp q]; exact .inr hDne
  have X1' := X1.mono (Q := fun b => b = it ∨ b = L) (fun _ q => q.elim) fun b hb => by
    rcases hb with rfl | rfl
    · exact (hfp _ wk.mem).2.2.1
    · exact fun q => hLI (X2.pre.subset q)
  exact ⟨I' ++ [D],(X1'.trans X4).fresh (fun b hb => by rcases hb with rfl | rfl; exact (hfp _ wk.mem).1; exact hLs),R4,D,by rw [← RL.len,List.getElem?_append_right (Nat.le_refl _),Nat.sub_self]; rfl,rfl⟩
end
section
variable {prog : Program} {w : World} {A : Around} {G : Gp} {X : Gx} {P : Par} {W : Wd} {h₀ : Heap} {F : Call}
structure GenP (prog : Program) (w : World) (A : Around) (G : Gp) (X : Gx) (P : Par) (W : Wd) (h₀ : Heap) (F : Call) (g : Comprehension) : Prop where
  I : SndI prog w A G X P W h₀ F g.iter
  T : ∀ z ∈ g.ifs,SndT prog w A G X P W h₀ F z
noncomputable def CompF (prog : Program) (w : World) (A : Around) (G : Gp) (X : Gx) (P : Par) (W : Wd) (h₀ : Heap) (F : Call) (e : PySem.Expr) : Prop := ∀ elt gens sc p,e = .ListComp elt gens sc p → SndE prog w A G X P W h₀ F elt ∧ ∀ g ∈ gens,GenP prog w A G X P W h₀ F g
structure Snd (prog : Program) (w : World) (A : Around) (G : Gp) (X : Gx) (P : Par) (W : Wd) (h₀ : Heap) (F : Call) (e : PySem.Expr) : Prop where
  E : SndE prog w A G X P W h₀ F e
  T : SndT prog w A G X P W h₀ F e
  I : SndI prog w A G X P W h₀ F e
  C : CompF prog w A G X P W h₀ F e
theorem noC {e : PySem.Expr} (h : isCompE e = false) : CompF prog w A G X P W h₀ F e := fun _ _ _ _ q => by rw [q] at h; exact tt h
theorem sndI_of (B : Bd prog w A G X P W h₀ F) {e : PySem.Expr} (hE : SndE prog w A G X P W h₀ F e) (h : ∀ Γ,toI' e (trE X Γ e) = .val (trE X Γ e)) : SndI prog w A G X P W h₀ F e := fun Γ env σ I hh s K Q E f R q hq => by
  rw [h Γ] at q
  exact sndI_val B hE f R q hq
theorem snd_bad' {e : PySem.Expr} (h : ∀ Γ,trE X Γ e = .bad) (h' : toI' e .bad = .val .bad) (C : CompF prog w A G X P W h₀ F e) : Snd prog w A G X P W h₀ F e := by
  refine ⟨fun Γ env σ I hh s K Q E f R q => ?_,fun Γ env σ I hh s K Q E f R q => ?_,fun Γ env σ I hh s K Q E f R q => ?_,C⟩
  · rw [h Γ] at q; exact q.elim
  · rw [h Γ] at q; exact q.elim
  · rw [h Γ,h'] at q; exact q.elim
theorem snd_bad {e : PySem.Expr} (h : ∀ Γ,trE X Γ e = .bad) (h' : toI' e .bad = .val .bad) (hc : isCompE e = false) : Snd prog w A G X P W h₀ F e := snd_bad' h h' (noC hc)
theorem snd_of (B : Bd prog w A G X P W h₀ F) {e : PySem.Expr} (hE : SndE prog w A G X P W h₀ F e) (he : ∀ env whole,isTrue e env whole = (do let v ← whole; standAt e.pos; holding [v] (PySem.truthy v)))
    (h : ∀ Γ,toI' e (trE X Γ e) = .val (trE X Γ e)) (hc : isCompE e = false) : Snd prog w A G X P W h₀ F e := ⟨hE,sndT_value B he hE,sndI_of B hE h,noC hc⟩
theorem toI_gme {c : Bool} {m : ME} (h : toI m = .val m) : toI (gME c m) = .val (gME c m) := by
  cases c with
  | true => exact h
  | false => rfl
theorem toI_meth {Γ : Cx} {o x : PySem.Expr} {m : Str} {apos pos : Pos} : toI (trE X Γ (.Call (.Attribute o m apos) [x] [] pos)) = .val (trE X Γ (.Call (.Attribute o m apos) [x] [] pos)) := by
  refine toI_gme ?_
  cases idxOf? m meths <;> rfl
theorem gme_bad {c : Bool} : gME c .bad = .bad := by cases c <;> rfl
theorem meth_bad {Γ : Cx} {o : PySem.Expr} {m : Str} {apos pos : Pos} {args : List PySem.Expr} (h : ∀ k,meth1 k (trE X Γ o) (trEs X Γ args) = .bad) : trE X Γ (.Call (.Attribute o m apos) args [] pos) = .bad := by
  show gME _ (oME (idxOf? m meths) fun k => meth1 k (trE X Γ o) (trEs X Γ args)) = .bad
  cases idxOf? m meths with
  | none => exact gme_bad
  | some k => show gME _ (meth1 k _ _) = _; rw [h k]; exact gme_bad
theorem sndEs_of {es : List PySem.Expr} (h : ∀ e ∈ es,Snd prog w A G X P W h₀ F e) : SndEs prog w A G X P W h₀ F es := by
  induction es with
  | nil => exact sndEs_nil
  | cons x r ih => exact sndEs_cons (h x List.mem_cons_self).E (ih fun e he => h e (List.mem_cons_of_mem _ he))
theorem sub_bad {o : PySem.Expr} {pos p : Pos} {lo hi st : Option PySem.Expr} (h : ∀ Γ,trE X Γ (.Subscript o (.Slice lo hi st p) pos) = .sub (trE X Γ o) .bad := by intro _; rfl) : SndE prog w A G X P W h₀ F (.Subscript o (.Slice lo hi st p) pos) := fun Γ env σ I hh s K Q E f R w' => by
  rw [h Γ] at w'
  obtain ⟨_,_,_,z⟩ := wE_sound (trE X Γ o) w'
  exact z.elim
theorem all_BoolOp (B : Bd prog w A G X P W h₀ F) {op : BoolOp} {vs : List PySem.Expr} {pos : Pos} (hv : ∀ e ∈ vs,Snd prog w A G X P W h₀ F e) : Snd prog w A G X P W h₀ F (.BoolOp op vs pos) := by
  have hE : SndE prog w A G X P W h₀ F (.BoolOp op vs pos) := fun Γ env σ I h s K Q E f R w' hq => by
    rw [arm_eval_BoolOp]; exact snd_bool B vs (fun z hz => (hv z hz).E) Γ env σ I h s K Q E f R w' hq
  refine ⟨hE,fun Γ env σ I h s K Q E f R w' hq => ?_,sndI_of B hE fun Γ => rfl,noC rfl⟩
  rw [arm_isTrue_BoolOp]; exact snd_bool_t vs (fun z hz => (hv z hz).T) Γ env σ I h s K Q E f R w' hq
theorem all_UnaryOp (B : Bd prog w A G X P W h₀ F) {op : UnaryOp} {x : PySem.Expr} {pos : Pos} (hx : Snd prog w A G X P W h₀ F x) : Snd prog w A G X P W h₀ F (.UnaryOp op x pos) := by
  have hE := snd_un B (op := op) (pos := pos) hx.E
  cases op with
  | Not => exact ⟨hE,snd_not_t hx.T,sndI_of B hE fun _ => rfl,noC rfl⟩
  | _ => exact snd_of B hE (fun _ _ => rfl) (fun _ => rfl) rfl
theorem all_Compare (B : Bd prog w A G X P W h₀ F) {l : PySem.Expr} {ops : List CmpOp} {cs : List PySem.Expr} {pos : Pos} (hl : Snd prog w A G X P W h₀ F l) (hc : ∀ e ∈ cs,Snd prog w A G X P W h₀ F e) : Snd prog w A G X P W h₀ F (.Compare l ops cs pos) := by
  match ops,cs,hc with
  | [],_,_ => exact snd_bad (fun _ => rfl) rfl rfl
  | [op],[],_ => exact snd_bad (fun _ => rfl) rfl rfl
  | [op],[r],hc =>
    have hr := (hc r List.mem_cons_self).E
    exact ⟨snd_cmp1 B hl.E hr,snd_cmp1_t B hl.E hr,sndI_of B (snd_cmp1 B hl.E hr) fun _ => rfl,noC rfl⟩
  | [op],_ :: _ :: _,_ => exact snd_bad (fun _ => rfl) rfl rfl
  | [op1,op2],[],_ => exact snd_bad (fun _ => rfl) rfl rfl
  | [op1,op2],[_],_ => exact snd_bad (fun _ => rfl) rfl rfl
  | [op1,op2],[m,r],hc =>
    have hm := (hc m List.mem_cons_self).E
    have hr := (hc r (List.mem_cons_of_mem _ List.mem_cons_self)).E
    exact ⟨snd_cmp2 B hl.E hm hr,snd_cmp2_t B hl.E hm hr,sndI_of B (snd_cmp2 B hl.E hm hr) fun _ => rfl,noC rfl⟩
  | [op1,op2],_ :: _ :: _ :: _,_ => exact snd_bad (fun _ => rfl) rfl rfl
  | _ :: _ :: _ :: _,_,_ => exact snd_bad (fun _ => rfl) rfl rfl
theorem all_meth (B : Bd prog w A G X P W h₀ F) {o : PySem.Expr} {m : Str} {apos pos : Pos} {args : List PySem.Expr} (ho : Snd prog w A G X P W h₀ F o) (ha : ∀ e ∈ args,Snd prog w A G X P W h₀ F e) : Snd prog w A G X P W h₀ F (.Call (.Attribute o m apos) args [] pos) := by
  match args,ha with
  | [],_ => exact snd_bad (fun _ => meth_bad fun _ => rfl) rfl rfl
  | [x],ha =>
    have hE := snd_meth B (m := m) (apos := apos) (pos := pos) ho.E (ha x List.mem_cons_self).E
    exact ⟨hE,sndT_value B (fun _ _ => rfl) hE,sndI_of B hE fun Γ => toI_meth,noC rfl⟩
  | a :: b :: r,_ => exact snd_bad (fun _ => meth_bad fun _ => rfl) rfl rfl
noncomputable def FunP (prog : Program) (w : World) (A : Around) (G : Gp) (X : Gx) (P : Par) (W : Wd) (h₀ : Heap) (F : Call) (f : PySem.Expr) : Prop := ∀ o m p,f = .Attribute o m p → Snd prog w A G X P W h₀ F o
theorem all_Call (B : Bd prog w A G X P W h₀ F) {g : PySem.Expr} {args : List PySem.Expr} {kws : List Keyword} {pos : Pos} (hg : FunP prog w A G X P W h₀ F g) (ha : ∀ e ∈ args,Snd prog w A G X P W h₀ F e) : Snd prog w A G X P W h₀ F (.Call g args kws pos) := by
  cases g with
  | Name m p =>
    cases kws with
    | nil =>
      have hE := snd_call B (n := m) (p := p) (pos := pos) (sndEs_of ha)
      exact ⟨hE,sndT_value B (fun _ _ => rfl) hE,sndI_call B (sndEs_of ha) hE,noC rfl⟩
    | cons => exact snd_bad (fun _ => rfl) rfl rfl
  | Attribute o m apos =>
    cases kws with
    | nil => exact all_meth B (hg o m apos rfl) ha
    | cons => exact snd_bad (fun _ => rfl) rfl rfl
  | _ => exact snd_bad (fun _ => rfl) rfl rfl
theorem comp_kind {elt t iter : PySem.Expr} {ifs : List PySem.Expr} {k : Int} {sc : Scope} {pos : Pos} : (∃ x px,t = .Name x px) ∨ ∀ Γ,trE X Γ (.ListComp elt [⟨t,iter,ifs,k⟩] sc pos) = .bad := by
  cases t with
  | Name x p => exact .inl ⟨_,_,rfl⟩
  | _ => exact .inr fun _ => rfl
theorem slice_kind {i : PySem.Expr} (h : isSliceE i = true) : ∃ lo up st p,i = .Slice lo up st p := by
  cases i with
  | Slice => exact ⟨_,_,_,_,rfl⟩
  | _ => exact ff h
theorem all_ListComp (B : Bd prog w A G X P W h₀ F) {elt : PySem.Expr} {gens : List Comprehension} {sc : Scope} {pos : Pos} (he : Snd prog w A G X P W h₀ F elt) (hg : ∀ g ∈ gens,GenP prog w A G X P W h₀ F g) : Snd prog w A G X P W h₀ F (.ListComp elt gens sc pos) := by
  have hC : CompF prog w A G X P W h₀ F (.ListComp elt gens sc pos) := fun _ _ _ _ q => by cases q; exact ⟨he.E,hg⟩
  match gens,hg,hC with
  | [],_,hC => exact snd_bad' (fun _ => rfl) rfl hC
  | ⟨_,_,_,_⟩ :: _ :: _,_,hC => exact snd_bad' (fun _ => rfl) rfl hC
  | [⟨t,iter,ifs,k⟩],hg,hC =>
    have g := hg _ List.mem_cons_self
    rcases comp_kind (X := X) (elt := elt) (t := t) (iter := iter) (ifs := ifs) (k := k) (sc := sc) (pos := pos) with ⟨x,px,q⟩ | q
    · by_cases hk : k = 0
      · subst hk q
        have hE := snd_comp (x := x) (px := px) (sc := sc) (pos := pos) B g.I he.E g.T
        exact ⟨hE,sndT_value B (fun _ _ => rfl) hE,sndI_of B hE fun _ => rfl,hC⟩
      · refine snd_bad' (fun Γ => ?_) rfl hC
        subst q
        show gME (k == 0 && _) _ = .bad
        rw [beq_eq_false_iff_ne.mpr hk]; rfl
    · exact snd_bad' q rfl hC
noncomputable def SliP (prog : Program) (w : World) (A : Around) (G : Gp) (X : Gx) (P : Par) (W : Wd) (h₀ : Heap) (F : Call) (i : PySem.Expr) : Prop := ∀ lo up st p,i = .Slice lo up st p → ∀ x,some x = lo ∨ some x = up → SndE prog w A G X P W h₀ F x
theorem sub_toI {o i : PySem.Expr} {pos : Pos} {Γ : Cx} : toI' (.Subscript o i pos) (trE X Γ (.Subscript o i pos)) = .val (trE X Γ (.Subscript o i pos)) := rfl
theorem all_Subscript (B : Bd prog w A G X P W h₀ F) {o i : PySem.Expr} {pos : Pos} (ho : Snd prog w A G X P W h₀ F o) (hi : Snd prog w A G X P W h₀ F i) (hs : SliP prog w A G X P W h₀ F i) : Snd prog w A G X P W h₀ F (.Subscript o i pos) := by
  refine snd_of B ?_ (fun _ _ => rfl) (fun _ => sub_toI) rfl
  cases c : isSliceE i with
  | false => exact snd_sub B ho.E hi.E c
  | true =>
    obtain ⟨lo,up,st,p,rfl⟩ := slice_kind c
    have hs := hs lo up st p rfl
    clear hi c
    match lo,up,st,hs with
    | some lo,none,none,hs => exact snd_slice_from B ho.E (hs lo (.inl rfl))
    | some lo,some up,none,hs => exact snd_slice_two B ho.E (hs lo (.inl rfl)) (hs up (.inr rfl))
    | none,_,_,_ => exact sub_bad
    | some _,none,some _,_ => exact sub_bad
    | some _,some _,some _,_ => exact sub_bad
end
noncomputable def FlR (I : List Addr) : Fl → Flow → Prop
  | .next,f => f = .next
  | .brk,f => f = .brk
  | .cont,f => f = .cont
  | .ret v,f => ∃ v',f = .ret v' ∧ VR I v v'
theorem FlR.mono {I I' : List Addr} (p : I <+: I') {a : Fl} {b : Flow} (h : FlR I a b) : FlR I' a b := by
  cases a <;> first | exact h | (obtain ⟨v',e,r⟩ := h; exact ⟨v',e,r.mono p⟩)
section
variable {prog : Program} {w : World} {A : Around} {G : Gp} {X : Gx} {P : Par} {W : Wd} {h₀ : Heap} {F : Call}
theorem FrameR.up {Γ : Cx} {env : Env} {σ : Sig} {I I' : List Addr} {s s' : Shared} (f : FrameR W Γ env σ I' h₀ s') (x : Ext NoP I s I' s') : Ext (Own env) I s I' s' := x.mono (fun _ q => q.elim) fun b hb => (f.own b hb).1
theorem FrameR.upS {Γ : Cx} {env : Env} {σ : Sig} {I I' : List Addr} {s s' : Shared} {y : Str} (f : FrameR W Γ env σ I' h₀ s') (x : Ext (Stor env y) I s I' s') : Ext (Own env) I s I' s' := x.mono (fun _ q => q.own) fun b hb => (f.own b hb).1
noncomputable def SQ (G : Gp) (W : Wd) (h₀ : Heap) (Γ : Cx) (env : Env) (I : List Addr) (s : Shared) (K : KS) (Q : Flow → Shared → Prop) : Prop :=
  ∀ fl σ' h' fl' I' s',Ext (Own env) I s I' s' → Rel G h₀ I' h' s' → FrameR W Γ env σ' I' h₀ s' → FlR I' fl fl' → K fl σ' h' → Q fl' s'
theorem SQ.go {Γ : Cx} {env : Env} {I I1 : List Addr} {s s1 : Shared} {K : KS} {Q : Flow → Shared → Prop} (q : SQ G W h₀ Γ env I s K Q) (x : Ext (Own env) I s I1 s1) : SQ G W h₀ Γ env I1 s1 K Q :=
  fun fl σ' h' fl' I' s' x' R f r k => q fl σ' h' fl' I' s' (x.trans x') R f r k
noncomputable def SndS (prog : Program) (w : World) (A : Around) (G : Gp) (X : Gx) (P : Par) (W : Wd) (h₀ : Heap) (F : Call) (st : Stmt) : Prop :=
  ∀ (Γ : Cx) (env : Env) (σ : Sig) (I : List Addr) (h : H) (s : Shared) (K : KS) (Q : Flow → Shared → Prop) (E : Value → Shared → Prop),FrameR W Γ env σ I h₀ s → Rel G h₀ I h s → wS P F (trS X Γ st) σ h K → SQ G W h₀ Γ env I s K Q → wpAny (model prog w) A (exec st env) Q E s
noncomputable def SndSs (prog : Program) (w : World) (A : Around) (G : Gp) (X : Gx) (P : Par) (W : Wd) (h₀ : Heap) (F : Call) (sts : List Stmt) : Prop :=
  ∀ (Γ : Cx) (env : Env) (σ : Sig) (I : List Addr) (h : H) (s : Shared) (K : KS) (Q : Flow → Shared → Prop) (E : Value → Shared → Prop),FrameR W Γ env σ I h₀ s → Rel G h₀ I h s → wSs P F (trSs X Γ sts) σ h K → SQ G W h₀ Γ env I s K Q → wpAny (model prog w) A (execs sts env) Q E s
theorem gMS_w {c : Bool} {m : MS} {σ : Sig} {h : H} {K : KS} (w : wS P F (gMS c m) σ h K) : c = true ∧ wS P F m σ h K := by
  cases c with
  | true => exact ⟨rfl,w⟩
  | false => exact w.elim
theorem oMS_w {α : Type} {x : Option α} {f : α → MS} {σ : Sig} {h : H} {K : KS} {Z : Prop} (w : wS P F (oMS x f) σ h K) (k : ∀ a,x = some a → wS P F (f a) σ h K → Z) : Z := by
  cases x with
  | some a => exact k a rfl w
  | none => exact w.elim
theorem sndSs_nil : SndSs prog w A G X P W h₀ F [] := fun Γ env σ I h s K Q E f R w' hq => wpAny_execs_nil (hq .next σ h .next I s .refl R f rfl w')
theorem sndSs_cons {st : Stmt} {rest : List Stmt} (hs : SndS prog w A G X P W h₀ F st) (hr : SndSs prog w A G X P W h₀ F rest) : SndSs prog w A G X P W h₀ F (st :: rest) := fun Γ env σ I h s K Q E f R w' hq =>
  wpAny_execs_cons (hs Γ env σ I h s _ _ _ f R w' fun fl σ1 h1 fl' I1 s1 X1 R1 f1 r1 k => by
    cases fl with
    | next => cases r1; exact hr Γ env σ1 I1 h1 s1 _ _ _ f1 R1 k (hq.go X1)
    | brk => cases r1; exact hq .brk σ1 h1 _ I1 s1 X1 R1 f1 rfl k
    | cont => cases r1; exact hq .cont σ1 h1 _ I1 s1 X1 R1 f1 rfl k
    | ret v => obtain ⟨v',rfl,z⟩ := r1; exact hq (.ret v) σ1 h1 _ I1 s1 X1 R1 f1 ⟨v',rfl,z⟩ k)
theorem store_val {Γ : Cx} {env : Env} {σ : Sig} {I I1 : List Addr} {s s1 : Shared} {h1 : H} {x : Str} {i : Nat} {v : V} {v' : Value} {K : KS} {Q : Flow → Shared → Prop} {E : Value → Shared → Prop} (f : FrameR W Γ env σ I h₀ s) (hs : slotOf Γ x = some i) (hq : SQ G W h₀ Γ env I s K Q)
    (X1 : Ext NoP I s I1 s1) (R1 : Rel G h₀ I1 h1 s1) (hv : VR I1 v v') (k : K .next (σ.set i (some v)) h1) : wpAny (model prog w) A (storeName env x v') (fun _ => Q .next) E s1 :=
  have f1 := f.ext0 X1
  store_slot R1 f1 hs hv fun s2 R2 f2 X2 => hq .next _ _ .next I1 s2 ((f1.up X1).trans (f2.upS X2)) R2 f2 rfl k
theorem SQ.nx {Γ : Cx} {env : Env} {σ : Sig} {I I1 : List Addr} {s s1 : Shared} {h1 : H} {K : KS} {Q : Flow → Shared → Prop} (hq : SQ G W h₀ Γ env I s K Q) (f : FrameR W Γ env σ I h₀ s) (X1 : Ext NoP I s I1 s1) (R1 : Rel G h₀ I1 h1 s1) (k : K .next σ h1) : Q .next s1 :=
  have f1 := f.ext0 X1
  hq .next σ h1 .next I1 s1 (f1.up X1) R1 f1 rfl k
theorem sndS_assign_plain {x : Str} {px pos : Pos} {v : PySem.Expr} (hv : SndE prog w A G X P W h₀ F v) (hns : ∀ env,swapsWith v (some (.Name x px)) pos.line env = pure false) : SndS prog w A G X P W h₀ F (.Assign [.Name x px] v pos) := fun Γ env σ I h s K Q E f R w' hq =>
  oMS_w w' fun i hi w' => wpAny_Assign_Name (hv Γ env σ I h s _ _ _ f R w' fun I1 s1 u h1 v' X1 R1 q1 k => store_val f hi hq X1 R1 q1 k.q) (hns env)
theorem sndS_setattr (B : Bd prog w A G X P W h₀ F) {o v : PySem.Expr} {a : Str} {p pos : Pos} (ho : SndE prog w A G X P W h₀ F o) (hv : SndE prog w A G X P W h₀ F v) : SndS prog w A G X P W h₀ F (.Assign [.Attribute o a p] v pos) := fun Γ env σ I h s K Q E f R w' hq =>
  oMS_w w' fun k hk w' => plainObj_wpAny_Assign_Attribute (hv Γ env σ I h s _ _ _ f R w' fun I1 s1 u h1 v' X1 R1 q1 w' => ho Γ env σ I1 h1 s1 _ _ _ (f.ext0 X1) R1 w' fun I2 s2 ov h2 o' X2 R2 q2 ⟨h3,e3,kk⟩ => by
    have f2 := (f.ext0 X1).ext0 X2
    have key := B.setA h2 h3 ov k u e3 (B.an a k hk).2 Γ env σ I2 s2 o' v' f2 R2 q2 (q1.mono X2.pre) (fun _ => Q .next) E fun s3 X3 R3 f3 => hq .next _ _ .next I2 s3 ((f2.up (X1.trans X2)).trans X3) R3 f3 rfl kk
    rw [(B.an a k hk).1] at key
    exact key) (by cases v <;> rfl)
theorem sndS_setsub {o i v : PySem.Expr} {p pos : Pos} (ho : SndE prog w A G X P W h₀ F o) (hi : SndE prog w A G X P W h₀ F i) (hv : SndE prog w A G X P W h₀ F v) : SndS prog w A G X P W h₀ F (.Assign [.Subscript o i p] v pos) := fun Γ env σ I h s K Q E f R w' hq =>
  wpAny_Assign_Subscript (hv Γ env σ I h s _ _ _ f R (gMS_w w').2 fun I1 s1 u h1 v' X1 R1 q1 w' => ho Γ env σ I1 h1 s1 _ _ _ (f.ext0 X1) R1 w' fun I2 s2 ov h2 o' X2 R2 q2 w' =>
    hi Γ env σ I2 h2 s2 _ _ _ ((f.ext0 X1).ext0 X2) R2 w' fun I3 s3 iv h3 i' X3 R3 q3 ⟨h4,e4,kk⟩ => setSub_sound R3 (q2.mono X3.pre) q3 ((q1.mono X2.pre).mono X3.pre) e4 fun s4 ⟨I4,X4,R4,_⟩ => hq.nx f (((X1.trans X2).trans X3).trans X4) R4 kk) (by cases v <;> rfl)
theorem sndS_aug (B : Bd prog w A G X P W h₀ F) {x : Str} {px pos : Pos} {op : Operator} {v : PySem.Expr} (hv : SndE prog w A G X P W h₀ F v) : SndS prog w A G X P W h₀ F (.AugAssign (.Name x px) op v pos) := fun Γ env σ I h s K Q E f R w' hq =>
  oMS_w w' fun i hi ⟨old,e0,w'⟩ => wpAny_AugAssign_Name (load_slot f hi e0 fun old' qo => hv Γ env σ I h s _ _ _ f R w' fun I1 s1 u h1 v' X1 R1 q1 w' =>
    let ⟨_,_,e2,kk⟩ := wAug_sound w'; augV_sound B.con R1 (qo.mono X1.pre) q1 e2 fun r' s2 ⟨I2,X2,R2,q2⟩ => store_val f hi hq (X1.trans X2) R2 q2 kk)
theorem sndS_augattr (B : Bd prog w A G X P W h₀ F) {o v : PySem.Expr} {a : Str} {p pos : Pos} {op : Operator} (ho : SndE prog w A G X P W h₀ F o) (hv : SndE prog w A G X P W h₀ F v) : SndS prog w A G X P W h₀ F (.AugAssign (.Attribute o a p) op v pos) := fun Γ env σ I h s K Q E f R w' hq =>
  oMS_w w' fun k hk w' => wpAny_AugAssign_AttributeAny (ho Γ env σ I h s _ _ _ f R w' fun I1 s1 ov h1 o' X1 R1 q1 ⟨old,e2,w'⟩ => by
    have key := B.getA h1 ov k old e2 (B.an a k hk).2 I1 s1 o' R1 q1
    rw [(B.an a k hk).1] at key
    refine key _ _ fun old' s2 ⟨I2,X2,R2,q2⟩ => hv Γ env σ I2 h1 s2 _ _ _ ((f.ext0 X1).ext0 X2) R2 w' fun I3 s3 u h2 v' X3 R3 q3 w' => ?_
    obtain ⟨r,h3,e4,h4,e5,kk⟩ := wAug_sound w'
    refine augV_sound B.con R3 (q2.mono X3.pre) q3 e4 fun r' s4 ⟨I4,X4,R4,q4⟩ => ?_
    have XX := ((X1.trans X2).trans X3).trans X4
    have f4 := f.ext0 XX
    have key2 := B.setA h3 h4 ov k r e5 (B.an a k hk).2 Γ env σ I4 s4 o' r' f4 R4 (((q1.mono X2.pre).mono X3.pre).mono X4.pre) q4 (fun _ => Q .next) E fun s5 X5 R5 f5 => hq .next _ _ .next I4 s5 ((f4.up XX).trans X5) R5 f5 rfl kk
    rw [(B.an a k hk).1] at key2
    exact key2)
theorem sndS_augsub (B : Bd prog w A G X P W h₀ F) {o i v : PySem.Expr} {p pos : Pos} {op : Operator} (ho : SndE prog w A G X P W h₀ F o) (hi : SndE prog w A G X P W h₀ F i) (hv : SndE prog w A G X P W h₀ F v) : SndS prog w A G X P W h₀ F (.AugAssign (.Subscript o i p) op v pos) := fun Γ env σ I h s K Q E f R w' hq => by
  have w0 := gMS_w w'
  refine wpAny_AugAssign_SubscriptAny (ho Γ env σ I h s _ _ _ f R w0.2 fun I1 s1 ov h1 o' X1 R1 q1 w' => hi Γ env σ I1 h1 s1 _ _ _ (f.ext0 X1) R1 w' fun I2 s2 iv h2 i' X2 R2 q2 ⟨old,e3,w'⟩ => ?_)
    (by have hs := w0.1; cases i <;> first | (intros; rfl) | cases hs)
  refine getSub_sound B.con R2 (q1.mono X2.pre) q2 e3 fun old' qo => hv Γ env σ I2 h2 s2 _ _ _ ((f.ext0 X1).ext0 X2) R2 w' fun I3 s3 u h3 v' X3 R3 q3 w' => ?_
  obtain ⟨r,h4,e5,h5,e6,kk⟩ := wAug_sound w'
  exact augV_sound B.con R3 (qo.mono X3.pre) q3 e5 fun r' s4 ⟨I4,X4,R4,q4⟩ =>
    setSub_sound R4 (((q1.mono X2.pre).mono X3.pre).mono X4.pre) ((q2.mono X3.pre).mono X4.pre) q4 e6 fun s5 ⟨I5,X5,R5,_⟩ => hq.nx f ((((X1.trans X2).trans X3).trans X4).trans X5) R5 kk
theorem sndS_if {t : PySem.Expr} {a b : List Stmt} {pos : Pos} (ht : SndT prog w A G X P W h₀ F t) (ha : SndSs prog w A G X P W h₀ F a) (hb : SndSs prog w A G X P W h₀ F b) : SndS prog w A G X P W h₀ F (.If t a b pos) := fun Γ env σ I h s K Q E f R w' hq =>
  wpAny_If (ht Γ env σ I h s _ _ _ f R w' (kT_ite (fun _ _ k => k) (fun I1 s1 h1 X1 R1 w' => ha Γ env σ I1 h1 s1 _ _ _ (f.ext0 X1) R1 w' (hq.go ((f.ext0 X1).up X1))) fun I1 s1 h1 X1 R1 w' => hb Γ env σ I1 h1 s1 _ _ _ (f.ext0 X1) R1 w' (hq.go ((f.ext0 X1).up X1))))
theorem sndS_ret {v : PySem.Expr} {pos : Pos} (hv : SndE prog w A G X P W h₀ F v) : SndS prog w A G X P W h₀ F (.Return (some v) pos) := fun Γ env σ I h s K Q E f R w' hq =>
  wpAny_Return_some (hv Γ env σ I h s _ _ _ f R w' fun I1 s1 u h1 v' X1 R1 q1 k => hq (.ret u) σ h1 _ I1 s1 ((f.ext0 X1).up X1) R1 (f.ext0 X1) ⟨v',rfl,q1⟩ k)
theorem sndS_brk {pos : Pos} : SndS prog w A G X P W h₀ F (.Break pos) := fun Γ env σ I h s K Q E f R w' hq => wpAny_Break (hq .brk σ h _ I s .refl R f rfl w')
theorem sndS_cont {pos : Pos} : SndS prog w A G X P W h₀ F (.Continue pos) := fun Γ env σ I h s K Q E f R w' hq => wpAny_Continue (hq .cont σ h _ I s .refl R f rfl w')
theorem sndS_expr {v : PySem.Expr} {pos : Pos} (hv : SndE prog w A G X P W h₀ F v) : SndS prog w A G X P W h₀ F (.Expr v pos) := fun Γ env σ I h s K Q E f R w' hq => by
  have w0 := gMS_w w'
  refine wpAny_Expr (hv Γ env σ I h s _ _ _ f R w0.2 fun I1 s1 u h1 v' X1 R1 q1 kk => ?_) (by unfold interactive; rw [f.kind]; rfl) ?_
  · obtain ⟨rfl,k⟩ := kk
    cases q1
    exact hq.nx f X1 R1 k
  · have hs := w0.1
    have w1 := w0.2
    cases v <;> first | rfl | exact w1.elim | cases hs
end
section
variable {prog : Program} {w : World} {A : Around} {G : Gp} {X : Gx} {P : Par} {W : Wd} {h₀ : Heap} {F : Call}
theorem sndS_comp_used {elt iter : PySem.Expr} {x y : Str} {px py pos spos : Pos} {ifs : List PySem.Expr} {sc : Scope} (hit : SndI prog w A G X P W h₀ F iter) (helt : SndE prog w A G X P W h₀ F elt)
    (hifs : ∀ e ∈ ifs,SndT prog w A G X P W h₀ F e) (B : Bd prog w A G X P W h₀ F) {Γ : Cx} {env : Env} {σ : Sig} {I : List Addr} {h : H} {s : Shared} {K : KS} (f : FrameR W Γ env σ I h₀ s) (R : Rel G h₀ I h s)
    (w' : wS P F (trS X Γ (.Assign [.Name y py] (.ListComp elt [⟨.Name x px,iter,ifs,0⟩] sc pos) spos)) σ h K) {Q : Flow → Shared → Prop} {E : Value → Shared → Prop} (hq : SQ G W h₀ Γ env I s K Q)
    (hsw : swapsWith (.ListComp elt [⟨.Name x px,iter,ifs,0⟩] sc pos) (some (.Name y py)) spos.line env = pure true) :
    wpAny (model prog w) A (exec (.Assign [.Name y py] (.ListComp elt [⟨.Name x px,iter,ifs,0⟩] sc pos) spos) env) Q E s := by
  refine oMS_w w' fun i hi w' => ?_
  have w0 := gME_w (w' : wE P F (gME _ _) σ h _)
  have c := compOk_of (Bool.and_eq_true_iff.mp w0.1).2
  rw [exec_Assign_Name_used _ _ _ _ hsw]
  refine wpAny_bind (wpAny_standAt (wpAny_bind ?_))
  show wpAny _ A (do let _ ← comprehension (.ListComp elt [⟨.Name x px,iter,ifs,0⟩] sc pos) sc env _ (newList []) false (eval iter env) (some (assign (.Name y py) env))) _ _ s
  refine wpAny_bind (wpAny_mono (wpAny_comprehension_free (use := some (assign (.Name y py) env)) (Q := fun _ s' => Q .next s') rfl (not_set w0.2) (comp_closure c f) c.kind (comp_names c) ?_)
    (fun _ s' hq' => wpAny_pure (wpAny_pure hq')) fun _ _ z => z)
  refine hit Γ env σ I h s _ _ _ f R w0.2 fun T h1 ⟨vs,h2,e2,hlen,kk⟩ I1 s2 it fp st X1 R2 wk st0 hfp => ?_
  refine comp_core B (h2 := h2) (vs := vs) helt hifs c f X1 R2 wk st0 hfp e2 hlen fun I' s' D L us n m XX X2 RL fL gL lL hDI hD0 hDs hDs2 hm hLI hL0 hLD hLs => ?_
  show wpAny _ A (assign (.Name y py) env (.ref D)) _ _ _
  have hitI : it ∉ I' := by obtain ⟨o,ho⟩ := wk.live st0; exact X2.out (hfp it wk.mem).2.2.1 ho
  have R4 := RL.adopt hDI hD0 gL (o := .lst vs) ⟨us,n,rfl,lL.mono (List.prefix_append _ _)⟩
  have hDit : D ≠ it := by
    rintro q
    subst q; have := (hfp _ wk.mem).2.1; rw [hDs2] at this; exact ff this
  have X4 : Ext (fun b => b = it) I1 s2 (I' ++ [D]) s' := by
    refine ⟨X2.same,X2.pre.trans (List.prefix_append _ _),fun b hb => ?_,X2.keep,X2.live,fun b hb => ?_⟩
    · rcases List.mem_append.mp hb with q | q
      · exact X2.new b q
      · rw [List.mem_singleton.mp q]; exact .inr hDs2
    · rcases List.mem_append.mp hb with q | q
      · exact X2.off b q
      · rw [List.mem_singleton.mp q]; exact .inr hDit
  have hv : VR (I' ++ [D]) (.ref h2.length) (.ref D) := ⟨D,by rw [← RL.len,List.getElem?_append_right (Nat.le_refl _),Nat.sub_self]; rfl,rfl⟩
  have X1' := X1.mono (Q := fun b => b = it) (fun _ q => q.elim) fun b hb => by subst hb; exact (hfp _ wk.mem).2.2.1
  have X6 : Ext NoP I s (I' ++ [D]) s' := (X1'.trans X4).fresh (fun b hb => by subst hb; exact (hfp _ wk.mem).1)
  have f6 := f.ext0 X6
  have hLI2 : L ∉ (I' ++ [D]) := fun q => by
    rcases List.mem_append.mp q with z | z
    · exact hLI z
    · exact hLD (List.mem_singleton.mp z)
  refine wpAny_assign_Name (store_slot R4 f6 hi hv fun s7 R7 f7 X7 => ?_)
  have hLo : ¬ Own env L := fun z => by
    obtain ⟨o,ho⟩ := Option.isSome_iff_exists.mp (f.alive z)
    rw [hLs] at ho; exact nn ho
  refine ⟨m,hm.at fun o q => X7.keep L o hLI2 (fun z => hLo z.own) q,fun hp hs => ?_⟩
  have k8 : ∀ c o,c ≠ L → s7.heap.get? c = some o → hp.get? c = some o := fun c o hc q => hs.extBut c o hc q
  have X8 : Ext (fun c => c = L) (I' ++ [D]) s7 (I' ++ [D]) { s7 with heap := hp } := Ext.one (tk := s7.toks) k8
  have R8 := R7.off (tk := s7.toks) hLI2 hL0 k8
  have f8 := f7.ext X8 fun b hb q => hLo (q ▸ hb)
  refine hq .next _ _ .next (I' ++ [D]) _ ?_ R8 f8 rfl kk.q
  have big : Ext (fun b => Own env b ∨ b = L) I s (I' ++ [D]) { s7 with heap := hp } := by
    have hno : ∀ b,(Own env b ∨ b = L) → b ∉ (I' ++ [D]) := fun b hb => by
      rcases hb with q | rfl
      · exact (f8.own b q).1
      · exact hLI2
    exact ((X6.mono (fun _ q => q.elim) hno).trans (X7.mono (fun _ q => .inl q.own) hno)).trans (X8.mono (fun _ q => .inr q) hno)
  exact big.freshOr (fun b hb => by rcases hb with q | rfl; exact .inl q; exact .inr hLs) fun b hb => .inl hb
end
section
variable {prog : Program} {w : World} {A : Around} {G : Gp} {X : Gx} {P : Par} {W : Wd} {h₀ : Heap} {F : Call}
theorem slots_shape {Γ : Cx} {env : Env} : ∀ {es : List PySem.Expr} {is : List Nat},slotsOf Γ es = some is → (assignEach es env).length = es.length ∧ (assignEach es env).findIdx? (·.1) = none ∧ es.length = is.length
  | [],is,h => by cases h; exact ⟨rfl,rfl,rfl⟩
  | e :: r,is,h => by
    obtain ⟨x,hx,h⟩ := bq_inv (show bq _ _ = _ from h)
    obtain ⟨i,hi,h⟩ := bq_inv h
    obtain ⟨js,hj,h⟩ := bq_inv h
    cases h
    obtain ⟨p,rfl⟩ := nameE_inv hx
    obtain ⟨a,b,c⟩ := slots_shape (env := env) hj
    have hc : assignEach (.Name x p :: r) env = (false,assign (.Name x p) env) :: assignEach r env := rfl
    rw [hc]
    exact ⟨congrArg (· + 1) a,by rw [List.findIdx?_cons,b]; rfl,congrArg (· + 1) c⟩
theorem stores_sound {Γ : Cx} {env : Env} {I : List Addr} {h : H} : ∀ {es : List PySem.Expr} {is : List Nat} {xs : List V} {ws : List Value} {σ σ1 : Sig} {s : Shared},slotsOf Γ es = some is → setSlots is xs σ = some σ1 → LR I xs ws →
    FrameR W Γ env σ I h₀ s → Rel G h₀ I h s → ∀ {Q : Unit → Shared → Prop} {E : Value → Shared → Prop},(∀ s',Ext (Own env) I s I s' → Rel G h₀ I h s' → FrameR W Γ env σ1 I h₀ s' → Q () s') →
    wpAny (model prog w) A (assignInOrder ((assignEach es env).map (·.2)) ws) Q E s
  | [],is,xs,ws,σ,σ1,s,h1,h2,l,f,R,Q,E,hq => by
    cases h1
    cases xs with
    | cons => cases h2
    | nil =>
      cases h2
      exact wpAny_pure (hq s .refl R f)
  | e :: r,is,xs,ws,σ,σ1,s,h1,h2,l,f,R,Q,E,hq => by
    obtain ⟨x,hx,h1⟩ := bq_inv (show bq _ _ = _ from h1)
    obtain ⟨i,hi,h1⟩ := bq_inv h1
    obtain ⟨js,hj,h1⟩ := bq_inv h1
    cases h1
    obtain ⟨p,rfl⟩ := nameE_inv hx
    cases xs with
    | nil => cases h2
    | cons v vs =>
      cases ws with
      | nil => cases l.1
      | cons u us =>
        obtain ⟨hlt,h2⟩ := if_inv (show ite _ _ _ = _ from h2)
        have lt : LR I vs us := ⟨Nat.succ.inj l.1,fun j y z a b => l.2 (j + 1) y z a b⟩
        show wpAny _ A (do holding us (assign (.Name x p) env u); assignInOrder ((assignEach r env).map (·.2)) us) Q E s
        refine wpAny_bind (wpAny_holding (wpAny_assign_Name (store_slot R f hi (l.2 0 v u rfl rfl) fun s2 R2 f2 X2 => ?_)))
        exact stores_sound hj h2 lt f2 R2 fun s3 X3 R3 f3 => hq s3 ((f2.upS X2).trans X3) R3 f3
theorem unpackV_inv {C : Nat → Option O} {h : H} {v : V} {n : Nat} {xs : List V} (e : unpackV C h v n = some xs) : objOf C h v = some (.tup xs) ∧ xs.length = n := by
  obtain ⟨ys,e1,e⟩ := bT_inv e
  obtain ⟨hl,e⟩ := if_inv e
  cases e; exact ⟨e1,hl⟩
noncomputable def Rnd (fl1 : Fl) (σ1 : Sig) (h1 : H) (fl : Fl) (σ' : Sig) (h' : H) (A : Prop) : Prop := match fl1 with
  | .next | .cont => A
  | .brk => fl = .next ∧ σ1 = σ' ∧ h1 = h'
  | .ret v => fl = .ret v ∧ σ1 = σ' ∧ h1 = h'
theorem rnd_of {K : Sig → H → Option (Fl × Sig × H)} {fl1 fl : Fl} {σ1 σ' : Sig} {h1 h' : H} (e : nxF K σ1 h1 fl1 = some (fl,σ',h')) : Rnd fl1 σ1 h1 fl σ' h' (K σ1 h1 = some (fl,σ',h')) := by
  cases fl1 with
  | next => exact e
  | cont => exact e
  | brk => obtain ⟨z,e⟩ := three_inv e; exact ⟨z.symm,e⟩
  | ret v => obtain ⟨z,e⟩ := three_inv e; exact ⟨z.symm,e⟩
theorem forL_nil {g : V → Sig → H → Option (Fl × Sig × H)} {ok : H → Bool} {σ σ' : Sig} {h h' : H} {fl : Fl} (e : forL g ok [] σ h = some (fl,σ',h')) : ok h = true ∧ Fl.next = fl ∧ σ = σ' ∧ h = h' := by
  obtain ⟨a,e⟩ := if_inv (show (if ok h = true then some (Fl.next,σ,h) else none) = some (fl,σ',h') from e)
  exact ⟨a,three_inv e⟩
theorem forL_cons {g : V → Sig → H → Option (Fl × Sig × H)} {ok : H → Bool} {x : V} {xs : List V} {σ σ' : Sig} {h h' : H} {fl : Fl} (e : forL g ok (x :: xs) σ h = some (fl,σ',h')) :
    ok h = true ∧ ∃ fl1 σ1 h1,g x σ h = some (fl1,σ1,h1) ∧ Rnd fl1 σ1 h1 fl σ' h' (forL g ok xs σ1 h1 = some (fl,σ',h')) := by
  obtain ⟨a,e⟩ := if_inv e
  obtain ⟨fl1,σ1,h1,e1,e⟩ := nxt_inv e
  exact ⟨a,fl1,σ1,h1,e1,rnd_of e⟩
theorem whileL_inv {t : Sig → H → Option (Bool × H)} {g : Sig → H → Option (Fl × Sig × H)} {n : Nat} {σ σ' : Sig} {h h' : H} {fl : Fl} (e : whileL t g (n + 1) σ h = some (fl,σ',h')) :
    (∃ h1 fl1 σ1 h2,t σ h = some (true,h1) ∧ g σ h1 = some (fl1,σ1,h2) ∧ Rnd fl1 σ1 h2 fl σ' h' (whileL t g n σ1 h2 = some (fl,σ',h'))) ∨ (t σ h = some (false,h') ∧ fl = .next ∧ σ = σ') := by
  obtain ⟨b,h1,e1,e⟩ := bo_inv e
  cases b with
  | false => obtain ⟨z,y,rfl⟩ := three_inv e; exact .inr ⟨e1,z.symm,y⟩
  | true =>
    obtain ⟨fl1,σ1,h2,e2,e⟩ := nxt_inv e
    exact .inl ⟨h1,fl1,σ1,h2,e1,e2,rnd_of e⟩
theorem unpack_sound (B : Bd prog w A G X P W h₀ F) {Γ : Cx} {env : Env} {I : List Addr} {h : H} {es : List PySem.Expr} {is : List Nat} {xs : List V} {v : V} {v' : Value} {σ σ1 : Sig} {s : Shared} {k : Nat} {p : Pos} (h1 : slotsOf Γ es = some is)
    (hu : unpackV P.C h v is.length = some xs) (h2 : setSlots is xs σ = some σ1) (hv : VR I v v') (f : FrameR W Γ env σ I h₀ s) (R : Rel G h₀ I h s) {Q : Unit → Shared → Prop} {E : Value → Shared → Prop}
    (hq : ∀ s',Ext (Own env) I s I s' → Rel G h₀ I h s' → FrameR W Γ env σ1 I h₀ s' → Q () s') : wpAny (model prog w) A (assign (.Tuple es k p) env v') Q E s := by
  obtain ⟨e1,hl⟩ := unpackV_inv hu
  obtain ⟨b,ob,rfl,g,us,n,rfl,l⟩ := obj_sound B.con R hv e1
  obtain ⟨a1,a2,a3⟩ := slots_shape (env := env) h1
  refine assign_Tuple_tuple B.hh (isTup_of g rfl) (by rw [a1,a3,← hl,l.1]; rfl) a2 fun h' he => ?_
  have k : ∀ c o,s.heap.get? c = some o → h'.get? c = some o := fun c o q => he c o (Nat.ne_of_lt (Heap.lt_size q)) q
  have X1 : Ext NoP I s I { s with heap := h',toks := s.toks } := Ext.keeps k
  have f1 := f.ext0 X1
  exact stores_sound h1 h2 l f1 (R.keeps (tk := s.toks) k) fun s' X R' f' => hq s' ((f1.up X1).trans X) R' f'
theorem swapped_none {es : List PySem.Expr} {k : Nat} {p : Pos} {v : PySem.Expr} {env : Env} (h : isTupleE v = false) : swappedStores [.Tuple es k p] v env = pure none := by
  cases v <;> first | rfl | cases h
theorem swaps_tuple {es : List PySem.Expr} {k : Nat} {p : Pos} {v : PySem.Expr} {env : Env} {ln : Nat} : swapsWithSole [.Tuple es k p] v ln env = pure false := by
  cases v <;> rfl
theorem sndS_unpack (B : Bd prog w A G X P W h₀ F) {es : List PySem.Expr} {k : Nat} {p pos : Pos} {v : PySem.Expr} (hv : SndE prog w A G X P W h₀ F v) : SndS prog w A G X P W h₀ F (.Assign [.Tuple es k p] v pos) := fun Γ env σ I h s K Q E f R w' hq => by
  have w0 := gMS_w w'
  refine oMS_w w0.2 fun is hi w' => ?_
  refine Assign_Tuple (hv Γ env σ I h s _ _ _ f R w' fun I1 s1 u h1 v' X1 R1 q1 ⟨xs,σ1,e2,e3,kk⟩ => ?_) swaps_tuple (swapped_none (by simpa using w0.1))
  have f1 := f.ext0 X1
  exact unpack_sound B hi e2 e3 q1 f1 R1 fun s2 X2 R2 f2 => hq .next _ _ .next I1 s2 ((f1.up X1).trans X2) R2 f2 rfl kk
noncomputable def QF (env : Env) (it : Addr) : Addr → Prop := fun b => Own env b ∨ b = it
noncomputable def RndF (g : V → Sig → H → Option (Fl × Sig × H)) (ok : H → Bool) (xs : List V) (fl : Fl) (σ' : Sig) (h' : H) : KS := fun fl1 σ3 h3 => Rnd fl1 σ3 h3 fl σ' h' (forL g ok xs σ3 h3 = some (fl,σ',h'))
inductive JF (W : Wd) (G : Gp) (h₀ : Heap) (Γ : Cx) (env : Env) (I1 : List Addr) (s2 : Shared) (it : Addr) (T : It) (st : Nat → Heap → Prop) (g : V → Sig → H → Option (Fl × Sig × H)) (fl : Fl) (σ' : Sig) (h' : H) (k : Nat) (s : Shared) : Prop
  | mk (I : List Addr) (h : H) (σ : Sig) (i : Nat) (X0 : Ext (QF env it) I1 s2 I s) (R0 : Rel G h₀ I h s) (f0 : FrameR W Γ env σ I h₀ s) (st0 : st i s.heap) (e0 : forL g T.ok (T.xs.drop i) σ h = some (fl,σ',h')) (hi : i ≤ T.xs.length) (hk : k = T.xs.length + 1 - i) : JF W G h₀ Γ env I1 s2 it T st g fl σ' h' k s
inductive JW (W : Wd) (G : Gp) (h₀ : Heap) (Γ : Cx) (env : Env) (I : List Addr) (s : Shared) (t : Sig → H → Option (Bool × H)) (g : Sig → H → Option (Fl × Sig × H)) (fl : Fl) (σ' : Sig) (h' : H) (k : Nat) (s' : Shared) : Prop
  | mk (I' : List Addr) (h1 : H) (σ1 : Sig) (X : Ext (Own env) I s I' s') (R : Rel G h₀ I' h1 s') (f : FrameR W Γ env σ1 I' h₀ s') (e : whileL t g k σ1 h1 = some (fl,σ',h')) : JW W G h₀ Γ env I s t g fl σ' h' k s'
inductive WhK (b : Bool) (fl : Fl) (σ1 σ' : Sig) (h2 h' : H) (g : Sig → H → Option (Fl × Sig × H)) (K : KS) : Prop
  | t (e : b = true) (fl1 : Fl) (σ3 : Sig) (h3 : H) (e3 : g σ1 h2 = some (fl1,σ3,h3)) (q : K fl1 σ3 h3) : WhK b fl σ1 σ' h2 h' g K
  | f (e : b = false) (q : fl = .next ∧ σ1 = σ' ∧ h2 = h') : WhK b fl σ1 σ' h2 h' g K
theorem for_loop {target iter : PySem.Expr} {body : List Stmt} {pos : Pos} (B : Bd prog w A G X P W h₀ F) (hit : SndI prog w A G X P W h₀ F iter)
    {Γ : Cx} {env : Env} {σ : Sig} {I : List Addr} {h : H} {s : Shared} {K : KS} {g : V → Sig → H → Option (Fl × Sig × H)} (f : FrameR W Γ env σ I h₀ s) (R : Rel G h₀ I h s)
    (w' : wI P F (toI' iter (trE X Γ iter)) σ h fun T h1 => LoopQ (forL g T.ok T.xs σ h1) K)
    (hg : ∀ σ I h s v v' r (K : KS),FrameR W Γ env σ I h₀ s → Rel G h₀ I h s → VR I v v' → g v σ h = some r → K r.1 r.2.1 r.2.2 → ∀ (Q : Flow → Shared → Prop) (E : Value → Shared → Prop),SQ G W h₀ Γ env I s K Q →
      wpAny (model prog w) A (assign target env v') (fun _ s2 => wpAny (model prog w) A (execs body env) Q E s2) E s)
    {Q : Flow → Shared → Prop} {E : Value → Shared → Prop} (hq : SQ G W h₀ Γ env I s K Q) : wpAny (model prog w) A (exec (.For target iter body [] pos) env) Q E s := by
  refine wpAny_For ?_ (not_set w')
  refine hit Γ env σ I h s _ _ _ f R w' fun T h1 ⟨fl,σ',h',e2,kk⟩ I1 s2 it fp st X1 R2 wk st2 hfp => ?_
  have f2 := f.ext0 X1
  have hown : ∀ b ∈ fp,¬ Own env b := fun b hb z => by
    obtain ⟨o,ho⟩ := Option.isSome_iff_exists.mp (f.alive z)
    rw [(hfp b hb).1] at ho; exact nn ho
  have hit0 := wk.mem
  have done : ∀ flx σx hx,(fl = flx ∧ σx = σ' ∧ hx = h') → ∀ I' s',Ext (QF env it) I1 s2 I' s' → FrameR W Γ env σx I' h₀ s' → Rel G h₀ I' hx s' → ∀ fl',FlR I' flx fl' → Q fl' s' := fun flx σx hx e I' s' X f' R' fl' r => by
    obtain ⟨e1,rfl,rfl⟩ := e
    refine hq fl _ _ fl' I' s' ?_ R' f' (e1 ▸ r) kk
    have hno : ∀ b,QF env it b → b ∉ I1 := fun b hb => by
      rcases hb with q | rfl
      · exact (f2.own b q).1
      · exact (hfp _ hit0).2.2.1
    exact ((X1.mono (fun _ q => q.elim) hno).trans X).freshOr (fun b hb => by rcases hb with q | rfl; exact .inl q; exact .inr (hfp _ hit0).1) fun b hb => .inl hb
  refine codeAny_forLoop_any (JF W G h₀ Γ env I1 s2 it T st g fl σ' h') ?_ (T.xs.length + 1)
    ⟨I1,h1,σ,0,.refl,R2,f2,st2,by simpa using e2,Nat.zero_le _,rfl⟩
  rintro k s ⟨I,h,σ,i,X0,R0,f0,st0,e0,hi,rfl⟩
  have wk0 := wk.mono X0.pre
  have hfpI : ∀ b ∈ fp,b ∉ I := fun b hb => by
    obtain ⟨o,ho⟩ := Option.isSome_iff_exists.mp (hfp b hb).2.1
    exact X0.out (hfp b hb).2.2.1 ho
  have hitI : it ∉ I := hfpI it hit0
  have notP : ∀ {I' : List Addr} {s' : Shared} {σ'' : Sig},FrameR W Γ env σ'' I' h₀ s' → it ∉ I' → ∀ b,QF env it b → b ∉ I' := fun f a b hb => by
    rcases hb with q | rfl
    · exact (f.own b q).1
    · exact a
  cases hv : T.xs[i]? with
  | none =>
    have hl := List.getElem?_eq_none_iff.mp hv
    rw [List.drop_of_length_le hl] at e0
    obtain ⟨hok,en⟩ := forL_nil e0
    refine wk0.fin B.con B.hh R0 st0 hok hv hi fun hp he => ?_
    have k1 : ∀ c o,c ≠ it → s.heap.get? c = some o → hp.get? c = some o := fun c o hc q => he c o hc q
    have X1 : Ext (fun c => c = it) I s I { s with heap := hp } := Ext.one (tk := s.toks) k1
    have f1 := f0.ext X1 fun b hb q => hown it hit0 (q ▸ hb)
    exact wpAny_execs_nil (done .next σ h ⟨en.1.symm,en.2⟩ I _ (X0.trans (X1.mono (fun b q => .inr q) (notP f1 hitI))) f1 (R0.off (tk := s.toks) hitI (hfp it hit0).2.2.2 k1) _ rfl)
  | some v =>
    have hlt := (List.getElem?_eq_some_iff.mp hv).1
    have hdrop : T.xs.drop i = v :: T.xs.drop (i + 1) := by
      rw [List.drop_eq_getElem_cons hlt]
      congr 1
      exact (List.getElem?_eq_some_iff.mp hv).2
    rw [hdrop] at e0
    obtain ⟨hok,fl1,σ3,h3,e3,e0⟩ := forL_cons e0
    refine wk0.next B.con R0 st0 hok hv fun v' hp tk hv' st1 hs => ?_
    have k1 : ∀ c o,c ≠ it → s.heap.get? c = some o → hp.get? c = some o := fun c o hc q => hs.extBut c o hc q
    have X1 : Ext (fun c => c = it) I s I { s with heap := hp,toks := tk } := Ext.one k1
    have f1 := f0.ext X1 fun b hb q => hown it hit0 (q ▸ hb)
    have R1 : Rel G h₀ I h { s with heap := hp,toks := tk } := R0.off hitI (hfp it hit0).2.2.2 k1
    have Y1 := X1.mono (Q := QF env it) (fun b q => .inr q) (notP f1 hitI)
    refine wk0.go st1 ?_
    have next : ∀ I3 h3 σ3 s3,Ext (Own env) I { s with heap := hp,toks := tk } I3 s3 → Rel G h₀ I3 h3 s3 → FrameR W Γ env σ3 I3 h₀ s3 → forL g T.ok (T.xs.drop (i + 1)) σ3 h3 = some (fl,σ',h') →
        ∃ m,m < T.xs.length + 1 - i ∧ JF W G h₀ Γ env I1 s2 it T st g fl σ' h' m s3 := fun I3 h3 σ3 s3 X3 R3 f3 e3 => by
      have hit3 : it ∉ I3 := X3.out hitI (wk0.live st1).choose_spec
      exact ⟨T.xs.length + 1 - (i + 1),by (first | lia | omega),I3,h3,σ3,i + 1,(X0.trans Y1).trans (X3.mono (fun b q => .inl q) (notP f3 hit3)),R3,f3,wk0.frame st1 fun b hb o q => X3.keep b o (hfpI b hb) (hown b hb) q,e3,hlt,rfl⟩
    have far : ∀ I3 s3 σ3,Ext (Own env) I { s with heap := hp,toks := tk } I3 s3 → FrameR W Γ env σ3 I3 h₀ s3 → Ext (QF env it) I1 s2 I3 s3 := fun I3 s3 σ3 X3 f3 => by
      have hit3 : it ∉ I3 := X3.out hitI (wk0.live st1).choose_spec
      exact (X0.trans Y1).trans (X3.mono (fun b q => .inl q) (notP f3 hit3))
    refine hg σ I h _ v v' _ (RndF g T.ok (T.xs.drop (i + 1)) fl σ' h') f1 R1 hv' e3 e0 _ _ fun fl1 σ3 h3 fl' I3 s3 X3 R3 f3 r3 e0 => ?_
    cases fl1 with
    | next => cases r3; exact next I3 h3 σ3 s3 X3 R3 f3 e0
    | cont => cases r3; exact next I3 h3 σ3 s3 X3 R3 f3 e0
    | brk => cases r3; exact done .next σ3 h3 e0 I3 s3 (far I3 s3 _ X3 f3) f3 R3 _ rfl
    | ret u => obtain ⟨u',rfl,hu⟩ := r3; exact done (.ret u) σ3 h3 e0 I3 s3 (far I3 s3 _ X3 f3) f3 R3 _ ⟨u',rfl,hu⟩
theorem sndS_for (B : Bd prog w A G X P W h₀ F) {x : Str} {px pos : Pos} {iter : PySem.Expr} {body : List Stmt} (hit : SndI prog w A G X P W h₀ F iter) (hb : SndSs prog w A G X P W h₀ F body) : SndS prog w A G X P W h₀ F (.For (.Name x px) iter body [] pos) := fun Γ env σ I h s K Q E f R w' hq =>
  oMS_w w' fun i hi w' => for_loop B hit f R w' (fun σ I h s v v' r K f R hv e k Q E hq => if_e e fun _ e =>
    wpAny_assign_Name (store_slot R f hi hv fun s2 R2 f2 X2 => hb Γ env _ I h s2 _ _ _ f2 R2 (wSs_c _ e k) (hq.go (f2.upS X2)))) hq
theorem sndS_forT (B : Bd prog w A G X P W h₀ F) {es : List PySem.Expr} {k : Nat} {px pos : Pos} {iter : PySem.Expr} {body : List Stmt} (hit : SndI prog w A G X P W h₀ F iter) (hb : SndSs prog w A G X P W h₀ F body) : SndS prog w A G X P W h₀ F (.For (.Tuple es k px) iter body [] pos) := fun Γ env σ I h s K Q E f R w' hq =>
  oMS_w w' fun is hi w' => for_loop B hit f R w' (fun σ I h s v v' r K f R hv e k Q E hq => bq_e e fun xs e2 e => bq_e e fun σ1 e3 e =>
    unpack_sound B hi e2 e3 hv f R fun s2 X2 R2 f2 => hb Γ env _ I h s2 _ _ _ f2 R2 (wSs_c _ e k) (hq.go X2)) hq
noncomputable def WhQ (t : Sig → H → Option (Bool × H)) (g : Sig → H → Option (Fl × Sig × H)) (k : Nat) (fl : Fl) (σ' : Sig) (h' : H) : KS := fun fl1 σ3 h3 => Rnd fl1 σ3 h3 fl σ' h' (whileL t g k σ3 h3 = some (fl,σ',h'))
theorem wh_w {t : ME} {b : MSs} {n : Nat} {σ σ' : Sig} {h h' : H} {fl : Fl} (e : whileL (fun σ h => bo (ev P F t σ h) fun x h1 => bq (truthy P.C h1 x) fun b => some (b,h1)) (fun σ h => exs P F b σ h) (n + 1) σ h = some (fl,σ',h')) :
    wE P F t σ h fun v h2 => ∃ c,truthy P.C h2 v = some c ∧ WhK c fl σ σ' h2 h' (fun σ h => exs P F b σ h) (WhQ (fun σ h => bo (ev P F t σ h) fun x h1 => bq (truthy P.C h1 x) fun b => some (b,h1)) (fun σ h => exs P F b σ h) n fl σ' h') := by
  rcases whileL_inv e with ⟨h2,fl1,σ3,h3,et,e3,e1⟩ | ⟨et,z⟩
  · exact bo_e et fun v h2' ev1 et => bq_e et fun c tv et => by cases et; exact wE_c _ ev1 ⟨true,tv,.t rfl fl1 σ3 h3 e3 e1⟩
  · exact bo_e et fun v h2' ev1 et => bq_e et fun c tv et => by cases et; exact wE_c _ ev1 ⟨false,tv,.f rfl ⟨z.1,z.2,rfl⟩⟩
theorem sndS_while {t : PySem.Expr} {body : List Stmt} {pos : Pos} (ht : SndT prog w A G X P W h₀ F t) (hb : SndSs prog w A G X P W h₀ F body) : SndS prog w A G X P W h₀ F (.While t body [] pos) := fun Γ env σ I h s K Q E f R w' hq => by
  obtain ⟨fl,σ',h',e,kk⟩ := w'
  refine wpAny_While ?_
  generalize whileMax = n at e
  refine codeAny_whileLoop (JW W G h₀ Γ env I s _ _ fl σ' h') ?_ n ⟨I,h,σ,.refl,R,f,e⟩
  have done : ∀ flx σx hx,(fl = flx ∧ σx = σ' ∧ hx = h') → ∀ I' s',Ext (Own env) I s I' s' → Rel G h₀ I' hx s' → FrameR W Γ env σx I' h₀ s' → ∀ fl',FlR I' flx fl' → Q fl' s' := fun flx σx hx e I' s' X R' f' fl' r => by
    obtain ⟨e1,rfl,rfl⟩ := e
    exact hq fl _ _ fl' I' s' X R' f' (e1 ▸ r) kk
  clear e f R hq kk
  rintro k s1 ⟨I1,h1,σ1,X1,R1,f1,e1⟩
  cases k with
  | zero => exact nn e1
  | succ k =>
    refine ht Γ env σ1 I1 h1 s1 _ _ _ f1 R1 (wh_w e1) fun v h2 ⟨b,tv,kb⟩ => ⟨b,tv,fun I2 s2 X2 R2 => ?_⟩
    have f2 := f1.ext0 X2
    have X02 := X1.trans (f2.up X2)
    clear e1 R1 X1 f1 tv X2
    cases kb with
    | t e fl1 σ3 h3 e3 e1 =>
      rw [if_pos e]
      refine hb Γ env σ1 I2 h2 s2 _ _ _ f2 R2 (wSs_c _ e3 e1) fun fl1 σ3 h3 fl' I3 s3 X3 R3 f3 r3 e1 => ?_
      cases fl1 with
      | next => cases r3; exact ⟨k,Nat.lt_succ_self k,I3,h3,σ3,X02.trans X3,R3,f3,e1⟩
      | cont => cases r3; exact ⟨k,Nat.lt_succ_self k,I3,h3,σ3,X02.trans X3,R3,f3,e1⟩
      | brk => cases r3; exact done .next σ3 h3 e1 I3 s3 (X02.trans X3) R3 f3 _ rfl
      | ret u => obtain ⟨u',rfl,hu⟩ := r3; exact done (.ret u) σ3 h3 e1 I3 s3 (X02.trans X3) R3 f3 _ ⟨u',rfl,hu⟩
    | f e q =>
      rw [if_neg (by rw [e]; exact Bool.false_ne_true)]
      exact wpAny_execs_nil (done .next σ1 h2 q I2 s2 X02 R2 f2 _ rfl)
end
section
variable {prog : Program} {w : World} {A : Around} {G : Gp} {X : Gx} {P : Par} {W : Wd} {h₀ : Heap} {F : Call}
theorem wS_asg {x : Str} {px pos : Pos} {v : PySem.Expr} {Γ : Cx} {σ : Sig} {h : H} {K : KS} (w' : wS P F (trS X Γ (.Assign [.Name x px] v pos)) σ h K) : ∃ i,slotOf Γ x = some i ∧ wE P F (trE X Γ v) σ h (kAsg i σ K) := oMS_w w' fun i hi w' => ⟨i,hi,w'⟩
theorem sndS_assign_at {x : Str} {px pos : Pos} {v : PySem.Expr} (hv : SndE prog w A G X P W h₀ F v) {Γ : Cx} {env : Env} {σ : Sig} {I : List Addr} {h : H} {s : Shared} {K : KS} (f : FrameR W Γ env σ I h₀ s) (R : Rel G h₀ I h s)
    (w' : wS P F (trS X Γ (.Assign [.Name x px] v pos)) σ h K) {Q : Flow → Shared → Prop} {E : Value → Shared → Prop} (hq : SQ G W h₀ Γ env I s K Q)
    (hns : swapsWith v (some (.Name x px)) pos.line env = pure false) : wpAny (model prog w) A (exec (.Assign [.Name x px] v pos) env) Q E s := by
  obtain ⟨i,hi,w'⟩ := wS_asg w'
  exact wpAny_Assign_Name (hv Γ env σ I h s _ _ _ f R w' fun I1 s1 u h1 v' X1 R1 q1 k => store_val f hi hq X1 R1 q1 k.q) hns
theorem sndS_bad {st : Stmt} (h : ∀ Γ,trS X Γ st = .bad) : SndS prog w A G X P W h₀ F st := fun Γ _ _ _ _ _ _ _ _ _ _ w' _ => by
  rw [h Γ] at w'; exact w'.elim
theorem swaps_comp {elt : PySem.Expr} {gens : List Comprehension} {sc : Scope} {pos px : Pos} {x : Str} {ln : Nat} {env : Env} : ∃ b,swapsWith (.ListComp elt gens sc pos) (some (.Name x px)) ln env = pure b := ⟨_,rfl⟩
inductive VK (X : Gx) : PySem.Expr → Prop
  | comp (elt : PySem.Expr) (gens : List Comprehension) (sc : Scope) (p : Pos) : VK X (.ListComp elt gens sc p)
  | bad (v : PySem.Expr) (h : ∀ Γ,trE X Γ v = .bad) : VK X v
  | ok (v : PySem.Expr) (h : ∀ env t ln,swapsWith v t ln env = pure false) : VK X v
theorem v_kind (X : Gx) (v : PySem.Expr) : VK X v := by
  cases v <;> first | exact .ok _ fun _ _ _ => rfl | exact .bad _ fun _ => rfl | exact .comp _ _ _ _
theorem assign_bad {x : Str} {px pos : Pos} {v : PySem.Expr} {Γ : Cx} {σ : Sig} {h : H} {K : KS} (hh : trE X Γ v = .bad) (w' : wS P F (trS X Γ (.Assign [.Name x px] v pos)) σ h K) : False := by
  obtain ⟨i,hi,w'⟩ := wS_asg w'
  rw [hh] at w'; exact w'
noncomputable def TgtP (prog : Program) (w : World) (A : Around) (G : Gp) (X : Gx) (P : Par) (W : Wd) (h₀ : Heap) (F : Call) (t : PySem.Expr) : Prop := (∀ o a p,t = .Attribute o a p → SndE prog w A G X P W h₀ F o) ∧ ∀ o i p,t = .Subscript o i p → SndE prog w A G X P W h₀ F o ∧ SndE prog w A G X P W h₀ F i
inductive TgtK (X : Gx) : PySem.Expr → Prop
  | name (x : Str) (p : Pos) : TgtK X (.Name x p)
  | attr (o : PySem.Expr) (a : Str) (p : Pos) : TgtK X (.Attribute o a p)
  | sub (o i : PySem.Expr) (p : Pos) : TgtK X (.Subscript o i p)
  | tup (es : List PySem.Expr) (k : Nat) (p : Pos) : TgtK X (.Tuple es k p)
  | bad (t : PySem.Expr) (h : ∀ Γ v pos,trS X Γ (.Assign [t] v pos) = .bad ∧ (∀ op,trS X Γ (.AugAssign t op v pos) = .bad) ∧ ∀ b,trS X Γ (.For t v b [] pos) = .bad) : TgtK X t
theorem tgt_kind (X : Gx) (t : PySem.Expr) : TgtK X t := by
  cases t <;> first | exact .bad _ fun _ _ _ => ⟨rfl,fun _ => rfl,fun _ => rfl⟩ | exact .name _ _ | exact .attr _ _ _ | exact .sub _ _ _ | exact .tup _ _ _
theorem sndS_assign (B : Bd prog w A G X P W h₀ F) {x : Str} {px pos : Pos} {v : PySem.Expr} (hv : Snd prog w A G X P W h₀ F v) : SndS prog w A G X P W h₀ F (.Assign [.Name x px] v pos) := by
  rcases v_kind X v with ⟨elt,gens,sc,p⟩ | ⟨_,hh⟩ | ⟨_,hh⟩
  · intro Γ env σ I h s K Q E f R w' hq
    obtain ⟨b,hb⟩ := swaps_comp (elt := elt) (gens := gens) (sc := sc) (pos := p) (x := x) (px := px) (ln := pos.line) (env := env)
    cases b with
    | false => exact sndS_assign_at hv.E f R w' hq hb
    | true =>
      have hC := hv.C elt gens sc p rfl
      clear hv
      match gens,hb,hC,w' with
      | [],_,_,e => exact (assign_bad rfl e).elim
      | ⟨t,_,_,_⟩ :: _ :: _,_,_,e => exact (assign_bad rfl e).elim
      | [⟨t,iter,ifs,k⟩],hb,hC,e =>
        have g := hC.2 _ List.mem_cons_self
        rcases comp_kind (X := X) (elt := elt) (t := t) (iter := iter) (ifs := ifs) (k := k) (sc := sc) (pos := p) with ⟨y,py,q⟩ | q
        · subst q
          obtain ⟨i,hi,e'⟩ := wS_asg e
          obtain rfl : k = 0 := beq_iff_eq.mp (Bool.and_eq_true_iff.mp (gME_w e').1).1
          exact sndS_comp_used g.I hC.1 g.T B f R e hq hb
        · exact (assign_bad (q Γ) e).elim
  · intro Γ env σ I h s K Q E f R w' hq
    exact (assign_bad (hh Γ) w').elim
  · exact sndS_assign_plain hv.E fun env => hh _ _ _
theorem all_Assign (B : Bd prog w A G X P W h₀ F) {ts : List PySem.Expr} {v : PySem.Expr} {pos : Pos} (hv : Snd prog w A G X P W h₀ F v) (ht : ∀ t ∈ ts,TgtP prog w A G X P W h₀ F t) : SndS prog w A G X P W h₀ F (.Assign ts v pos) := by
  match ts,ht with
  | [],_ => exact sndS_bad fun _ => rfl
  | _ :: _ :: _,_ => exact sndS_bad fun _ => rfl
  | [t],ht =>
    rcases tgt_kind X t with ⟨x,px⟩ | ⟨o,a,p⟩ | ⟨o,i,p⟩ | ⟨es,k,p⟩ | ⟨_,h⟩
    · exact sndS_assign B hv
    · exact sndS_setattr B ((ht _ List.mem_cons_self).1 _ _ _ rfl) hv.E
    · exact sndS_setsub ((ht _ List.mem_cons_self).2 _ _ _ rfl).1 ((ht _ List.mem_cons_self).2 _ _ _ rfl).2 hv.E
    · exact sndS_unpack B hv.E
    · exact sndS_bad fun Γ => (h Γ v pos).1
theorem all_AugAssign (B : Bd prog w A G X P W h₀ F) {t v : PySem.Expr} {op : Operator} {pos : Pos} (hv : Snd prog w A G X P W h₀ F v) (ht : TgtP prog w A G X P W h₀ F t) : SndS prog w A G X P W h₀ F (.AugAssign t op v pos) := by
  rcases tgt_kind X t with ⟨x,px⟩ | ⟨o,a,p⟩ | ⟨o,i,p⟩ | ⟨es,k,p⟩ | ⟨_,h⟩
  · exact sndS_aug B hv.E
  · exact sndS_augattr B (ht.1 _ _ _ rfl) hv.E
  · exact sndS_augsub B (ht.2 _ _ _ rfl).1 (ht.2 _ _ _ rfl).2 hv.E
  · exact sndS_bad fun _ => rfl
  · exact sndS_bad fun Γ => (h Γ v pos).2.1 op
theorem all_For (B : Bd prog w A G X P W h₀ F) {t it : PySem.Expr} {b orelse : List Stmt} {pos : Pos} (hit : Snd prog w A G X P W h₀ F it) (hb : SndSs prog w A G X P W h₀ F b) : SndS prog w A G X P W h₀ F (.For t it b orelse pos) := by
  cases orelse with
  | cons => exact sndS_bad fun _ => rfl
  | nil =>
    rcases tgt_kind X t with ⟨x,px⟩ | ⟨o,a,p⟩ | ⟨o,i,p⟩ | ⟨es,k,p⟩ | ⟨_,h⟩
    · exact sndS_for B hit.I hb
    · exact sndS_bad fun _ => rfl
    · exact sndS_bad fun _ => rfl
    · exact sndS_forT B hit.I hb
    · exact sndS_bad fun Γ => (h Γ it pos).2.2 b
theorem all_While {t : PySem.Expr} {b orelse : List Stmt} {pos : Pos} (ht : Snd prog w A G X P W h₀ F t) (hb : SndSs prog w A G X P W h₀ F b) : SndS prog w A G X P W h₀ F (.While t b orelse pos) := by
  cases orelse with
  | cons => exact sndS_bad fun _ => rfl
  | nil => exact sndS_while ht.T hb
theorem all_Return {v : Option PySem.Expr} {pos : Pos} (hv : ∀ e,v = some e → Snd prog w A G X P W h₀ F e) : SndS prog w A G X P W h₀ F (.Return v pos) := by
  cases v with
  | none => exact sndS_bad fun _ => rfl
  | some e => exact sndS_ret (hv e rfl).E
structure AllE (prog : Program) (w : World) (A : Around) (G : Gp) (X : Gx) (P : Par) (W : Wd) (h₀ : Heap) (F : Call) (e : PySem.Expr) : Prop where
  s : Snd prog w A G X P W h₀ F e
  f : FunP prog w A G X P W h₀ F e
  i : SliP prog w A G X P W h₀ F e
  t : TgtP prog w A G X P W h₀ F e
theorem AllE.mk' {e : PySem.Expr} (s : Snd prog w A G X P W h₀ F e) (h : (Nat.beq e.ctorIdx 20 || (Nat.beq e.ctorIdx 21 || Nat.beq e.ctorIdx 26)) = false) : AllE prog w A G X P W h₀ F e :=
  ⟨s,fun _ _ _ q => (by rw [q] at h; cases h),fun _ _ _ _ q => (by rw [q] at h; cases h),fun _ _ _ q => (by rw [q] at h; cases h),fun _ _ _ q => (by rw [q] at h; cases h)⟩
theorem AllE.bad {e : PySem.Expr} (h : ∀ Γ,trE X Γ e = .bad) (h' : toI' e .bad = .val .bad) (hc : (Nat.beq e.ctorIdx 8 || (Nat.beq e.ctorIdx 20 || (Nat.beq e.ctorIdx 21 || Nat.beq e.ctorIdx 26))) = false) : AllE prog w A G X P W h₀ F e :=
  .mk' (snd_bad h h' (Bool.or_eq_false_iff.mp hc).1) (Bool.or_eq_false_iff.mp hc).2
theorem sndS_rec (B : Bd prog w A G X P W h₀ F) (st : Stmt) : SndS prog w A G X P W h₀ F st := by
  refine PySem.Stmt.rec (motive_1 := fun e => AllE prog w A G X P W h₀ F e) (motive_2 := fun st => SndS prog w A G X P W h₀ F st) (motive_3 := fun g => GenP prog w A G X P W h₀ F g) (motive_4 := fun _ => True) (motive_5 := fun _ => True) (motive_6 := fun _ => True) (motive_7 := fun _ => True)
    (motive_8 := fun _ => True) (motive_9 := fun _ => True) (motive_10 := fun _ => True) (motive_11 := fun _ => True) (motive_12 := fun es => ∀ e ∈ es,AllE prog w A G X P W h₀ F e) (motive_13 := fun _ => True) (motive_14 := fun gs => ∀ g ∈ gs,GenP prog w A G X P W h₀ F g)
    (motive_15 := fun o => ∀ e,o = some e → AllE prog w A G X P W h₀ F e) (motive_16 := fun _ => True) (motive_17 := fun sts => SndSs prog w A G X P W h₀ F sts) (motive_18 := fun _ => True) (motive_19 := fun _ => True) (motive_20 := fun _ => True) (motive_21 := fun _ => True) (motive_22 := fun _ => True) (motive_23 := fun _ => True) (motive_24 := fun _ => True) (motive_25 := fun _ => True)
    (fun _ _ _ ih => .mk' (all_BoolOp B fun e h => (ih e h).s) rfl)
    (fun _ _ _ _ _ => .bad (fun _ => rfl) rfl rfl)
    (fun _ _ _ _ a b => .mk' (snd_of B (snd_bin B a.s.E b.s.E) (fun _ _ => rfl) (fun _ => rfl) rfl) rfl)
    (fun _ _ _ ih => .mk' (all_UnaryOp B ih.s) rfl)
    (fun _ _ _ _ _ _ => .bad (fun _ => rfl) rfl rfl)
    (fun _ _ _ _ h1 h2 h3 => .mk' ⟨snd_ite h1.s.T h2.s.E h3.s.E,snd_ite_t h1.s.T h2.s.T h3.s.T,sndI_of B (snd_ite h1.s.T h2.s.E h3.s.E) fun _ => rfl,noC rfl⟩ rfl)
    (fun _ _ _ _ _ => .bad (fun _ => rfl) rfl rfl)
    (fun _ _ _ _ => .bad (fun _ => rfl) rfl rfl)
    (fun _ _ _ _ h1 h2 => .mk' (all_ListComp B h1.s h2) rfl)
    (fun _ _ _ _ _ _ => .bad (fun _ => rfl) rfl rfl)
    (fun _ _ _ _ _ _ _ _ => .bad (fun _ => rfl) rfl rfl)
    (fun _ _ _ _ _ _ => .bad (fun _ => rfl) rfl rfl)
    (fun _ _ _ => .bad (fun _ => rfl) rfl rfl)
    (fun _ _ _ => .bad (fun _ => rfl) rfl rfl)
    (fun _ _ _ => .bad (fun _ => rfl) rfl rfl)
    (fun _ _ _ _ h1 h2 => .mk' (all_Compare B h1.s fun e h => (h2 e h).s) rfl)
    (fun _ _ _ _ h1 h2 _ => .mk' (all_Call B h1.f fun e h => (h2 e h).s) rfl)
    (fun _ _ _ _ _ _ => .bad (fun _ => rfl) rfl rfl)
    (fun _ _ _ => .bad (fun _ => rfl) rfl rfl)
    (fun _ _ _ => .mk' (snd_of B snd_const (fun _ _ => rfl) (fun _ => rfl) rfl) rfl)
    (fun _ _ _ ih => ⟨snd_of B (snd_attr B ih.s.E) (fun _ _ => rfl) (fun _ => rfl) rfl,fun _ _ _ q => by cases q; exact ih.s,(fun _ _ _ _ q => nomatch q),⟨fun _ _ _ q => by cases q; exact ih.s.E,fun _ _ _ q => nomatch q⟩⟩)
    (fun _ _ _ h1 h2 => ⟨all_Subscript B h1.s h2.s h2.i,(fun _ _ _ q => nomatch q),(fun _ _ _ _ q => nomatch q),⟨(fun _ _ _ q => nomatch q),fun _ _ _ q => by cases q; exact ⟨h1.s.E,h2.s.E⟩⟩⟩)
    (fun _ _ _ => .bad (fun _ => rfl) rfl rfl)
    (fun _ _ => .mk' (snd_of B (snd_name B) (fun _ _ => rfl) (fun _ => rfl) rfl) rfl)
    (fun _ _ ih => .mk' (snd_of B (snd_list (sndEs_of fun e h => (ih e h).s)) (fun _ _ => rfl) (fun _ => rfl) rfl) rfl)
    (fun _ k pos ih => .mk' ⟨snd_tuple (k := k) (pos := pos) (sndEs_of fun e h => (ih e h).s),sndT_value B (fun _ _ => rfl) (snd_tuple (k := k) (pos := pos) (sndEs_of fun e h => (ih e h).s)),sndI_tuple (sndEs_of fun e h => (ih e h).s),noC rfl⟩ rfl)
    (fun _ _ _ _ h1 h2 _ => ⟨snd_bad (fun _ => rfl) rfl rfl,(fun _ _ _ q => nomatch q),(fun _ _ _ _ q x hx => by cases q; exact hx.elim (fun z => (h1 x z.symm).s.E) fun z => (h2 x z.symm).s.E),⟨(fun _ _ _ q => nomatch q),(fun _ _ _ q => nomatch q)⟩⟩)
    (fun _ _ _ _ _ _ _ _ _ _ _ _ _ _ _ => sndS_bad fun _ => rfl)
    (fun _ _ _ _ _ _ _ _ _ _ _ _ _ _ _ => sndS_bad fun _ => rfl)
    (fun _ _ _ _ _ _ _ _ _ _ _ _ _ _ _ _ => sndS_bad fun _ => rfl)
    (fun _ _ ih => all_Return fun e h => (ih e h).s)
    (fun _ _ _ => sndS_bad fun _ => rfl)
    (fun _ _ _ h1 h2 => all_Assign B h2.s fun t ht => (h1 t ht).t)
    (fun _ _ _ _ _ _ _ _ _ _ => sndS_bad fun _ => rfl)
    (fun _ _ _ _ h1 h2 => all_AugAssign B h2.s h1.t)
    (fun _ _ _ _ _ _ _ _ => sndS_bad fun _ => rfl)
    (fun _ _ _ _ _ _ h2 h3 _ => all_For B h2.s h3)
    (fun _ _ _ _ _ _ _ _ _ => sndS_bad fun _ => rfl)
    (fun _ _ _ _ h1 h2 _ => all_While h1.s h2)
    (fun _ _ _ _ h1 h2 h3 => sndS_if h1.s.T h2 h3)
    (fun _ _ _ _ _ => sndS_bad fun _ => rfl)
    (fun _ _ _ _ _ => sndS_bad fun _ => rfl)
    (fun _ _ _ _ _ => sndS_bad fun _ => rfl)
    (fun _ _ _ _ _ => sndS_bad fun _ => rfl)
    (fun _ _ _ _ _ _ _ _ _ => sndS_bad fun _ => rfl)
    (fun _ _ _ _ _ _ _ _ _ => sndS_bad fun _ => rfl)
    (fun _ _ _ _ _ => sndS_bad fun _ => rfl)
    (fun _ _ => sndS_bad fun _ => rfl)
    (fun _ _ _ _ => sndS_bad fun _ => rfl)
    (fun _ _ => sndS_bad fun _ => rfl)
    (fun _ _ => sndS_bad fun _ => rfl)
    (fun _ _ ih => sndS_expr ih.s.E)
    (fun _ => sndS_bad fun _ => rfl)
    (fun _ => sndS_brk)
    (fun _ => sndS_cont)
    (fun _ _ _ _ _ h2 h3 => ⟨h2.s.I,fun z hz => (h3 z hz).s.T⟩)
    (fun _ _ _ _ _ _ => trivial)
    (fun _ _ _ _ _ _ _ _ _ _ _ _ _ _ => trivial)
    (fun _ _ _ _ => trivial)
    (fun _ _ _ _ => trivial)
    (fun _ _ _ _ => trivial)
    (fun _ _ _ _ _ _ => trivial)
    (fun _ _ _ => trivial)
    (fun _ _ => trivial)
    (fun _ _ _ => trivial)
    (fun _ _ _ _ _ _ => trivial)
    (fun _ _ _ _ _ _ _ _ => trivial)
    (fun _ _ => trivial)
    (fun _ _ _ _ => trivial)
    (fun _ _ _ => trivial)
    (fun _ _ _ _ _ _ _ _ _ => trivial)
    (fun _ _ _ _ _ _ => trivial)
    (fun _ _ _ _ _ _ => trivial)
    (fun _ h => nomatch h)
    (fun _ _ h1 h2 e he => (List.mem_cons.mp he).elim (fun q => q ▸ h1) (h2 e))
    (trivial)
    (fun _ _ _ _ => trivial)
    (fun _ h => nomatch h)
    (fun _ _ h1 h2 e he => (List.mem_cons.mp he).elim (fun q => q ▸ h1) (h2 e))
    (fun _ h => nomatch h)
    (fun _ ih _ q => Option.some.inj q ▸ ih)
    (trivial)
    (fun _ _ _ _ => trivial)
    (sndSs_nil)
    (fun _ _ h1 h2 => sndSs_cons h1 h2)
    (trivial)
    (fun _ _ _ _ => trivial)
    (trivial)
    (fun _ _ _ _ => trivial)
    (trivial)
    (fun _ _ _ _ => trivial)
    (trivial)
    (fun _ _ _ _ => trivial)
    (trivial)
    (fun _ _ _ _ => trivial)
    (trivial)
    (fun _ _ => trivial)
    (trivial)
    (fun _ _ _ _ => trivial)
    (trivial)
    (fun _ _ => trivial) st
theorem sndSs_of {sts : List Stmt} (h : ∀ e ∈ sts,SndS prog w A G X P W h₀ F e) : SndSs prog w A G X P W h₀ F sts := by
  induction sts with
  | nil => exact sndSs_nil
  | cons x r ih => exact sndSs_cons (h x List.mem_cons_self) (ih fun e he => h e (List.mem_cons_of_mem _ he))
theorem sndSs_all (B : Bd prog w A G X P W h₀ F) (sts : List Stmt) : SndSs prog w A G X P W h₀ F sts := sndSs_of fun st _ => sndS_rec B st
end
theorem zip_lookup : ∀ {names : List Str} {vals : List Value} {i : Nat} {n : Str} {v : Value},names.Nodup → names[i]? = some n → vals[i]? = some v → (names.zip vals).lookup n = some v
  | [],_,_,_,_,_,h,_ => by simp at h
  | a :: l,[],_,_,_,_,_,h => by simp at h
  | a :: l,b :: r,0,n,v,_,h1,h2 => by
    simp at h1 h2; subst h1 h2; simp
  | a :: l,b :: r,i + 1,n,v,hd,h1,h2 => by
    simp at h1 h2
    have hd' := List.nodup_cons.mp hd
    have : n ≠ a := by rintro rfl; exact hd'.1 (List.mem_of_getElem? h1)
    rw [List.zip_cons_cons,List.lookup_cons,beq_eq_false_iff_ne.mpr this]
    exact zip_lookup hd'.2 h1 h2
theorem zip_filterMap : ∀ (names : List Str) (vals : List Value) (f : Str → Option Value),vals.length = names.length → (∀ (i : Nat) (n : Str) (v : Value),names[i]? = some n → vals[i]? = some v → f n = some v) → (names.filterMap fun n => (f n).map (n,·)) = names.zip vals
  | [],[],_,_,_ => rfl
  | [],_ :: _,_,h,_ => by cases h
  | _ :: _,[],_,h,_ => by cases h
  | a :: l,b :: r,f,h,hf => by
    rw [List.filterMap_cons,hf 0 a b rfl rfl]
    simp only [Option.map_some,List.zip_cons_cons]
    rw [zip_filterMap l r f (by simpa using h) fun i n v h1 h2 => hf (i + 1) n v (by simpa using h1) (by simpa using h2)]
theorem lkb {names : List Str} {vals : List Value} (hl : vals.length = names.length) (hnd : names.Nodup) (k : Nat) : ((names.take k).filter fun n => ((names.zip vals).lookup n).isNone) = [] := by
  rw [List.filter_eq_nil_iff]
  intro n hn
  obtain ⟨i,hi⟩ := List.getElem?_of_mem (List.mem_of_mem_take hn)
  rw [zip_lookup hnd hi (List.getElem?_eq_getElem (by rw [hl]; exact (List.getElem?_eq_some_iff.mp hi).1))]
  exact Bool.false_ne_true
theorem not_emp {α : Type} {l : List α} (h : l = []) : ¬ (!l.isEmpty) = true := by subst h; exact Bool.false_ne_true
theorem for_none {α β γ : Type} {l : List α} {x : β} {f : α → β → Sem (ForInStep β)} {k : β → Sem γ} (h : l = []) : (forIn l x f >>= k) = k x := by subst h; rfl
theorem zdn {α β : Type} {l : List α} {m : List β} {k : Nat} (h : m = []) : l.zip (m.drop k) = [] := by subst h; rw [List.drop_nil,List.zip_nil_right]
theorem bind_plain {fd : FuncData} {vals : List Value} (h1 : fd.params.posonlyargs = []) (h2 : fd.params.vararg = none) (h3 : fd.params.kwonlyargs = []) (h4 : fd.params.kwarg = none) (h5 : fd.defaults = .none)
    (hl : vals.length = fd.params.args.length) (hnd : (fd.params.args.map (·.arg)).Nodup) : bindArgs fd ⟨vals,[]⟩ = pure ((fd.params.args.map (·.arg)).zip vals) := by
  obtain ⟨nm,qn,⟨_,args,_,_,kd,_,ds⟩,body,scope,gl,clo,_,kwd,doc,pm,an,code,ct,bi⟩ := fd
  dsimp only at h1 h2 h3 h4 h5 hl hnd
  subst h1 h2 h3 h4 h5
  have hl : vals.length = (List.map Arg.arg args).length := by rw [hl,List.length_map]
  refine (if_neg (c := (decide (vals.length > ([] ++ List.map Arg.arg args).length) && true) = true) ?_).trans ((if_neg (not_emp (lkb hl hnd _))).trans ((for_none ?_).trans ?_))
  · rw [Bool.and_true,decide_eq_true_eq,hl]; exact Nat.lt_irrefl _
  · exact zdn rfl
  · exact (for_none rfl).trans ((if_neg (not_emp rfl)).trans (congrArg pure ((congrArg (List.filterMap _) (List.append_nil _)).trans (zip_filterMap _ vals _ hl fun i n v a b => zip_lookup hnd a b))))
structure FdOk (d : FD) : Prop where
  pos : d.params.posonlyargs = []
  va : d.params.vararg = none
  ko : d.params.kwonlyargs = []
  kw : d.params.kwarg = none
  kind : d.scope.kind = .function
  gen : d.scope.isGenerator = false
  co : d.scope.isCoroutine = false
  nodup : nodupNames d.scope.names = true
  free : ∀ x ∈ d.scope.names,x.2 ≠ .free
  take : d.params.args.map (·.arg) = (slotNames d.scope.names).take d.params.args.length
theorem strsEq_iff : ∀ a b : List Str,strsEq a b = true ↔ a = b
  | [],[] => ⟨fun _ => rfl,fun _ => rfl⟩
  | [],_ :: _ => ⟨nofun,nofun⟩
  | _ :: _,[] => ⟨nofun,nofun⟩
  | a :: l,b :: r => by
    show (sEq a b && strsEq l r) = true ↔ _
    rw [Bool.and_eq_true,strsEq_iff l r,List.cons.injEq,sEq_iff]
theorem fdOk_of {d : FD} (h : fdOk d = true) : FdOk d := by
  simp only [fdOk,Bool.and_eq_true,List.isEmpty_iff,Option.isNone_iff_eq_none,beq_iff_eq,Bool.not_eq_true',List.all_eq_true,bne_iff_ne] at h
  obtain ⟨⟨⟨⟨⟨⟨⟨⟨⟨⟨⟨a,b⟩,c⟩,_⟩,e⟩,_⟩,g⟩,i⟩,j⟩,k⟩,l⟩,m⟩ := h
  exact ⟨a,b,c,e,g,i,j,k,fun x hx => l x hx,(strsEq_iff _ _).mp m⟩
theorem slotNames_mem {l : List (Str × NameKind)} {x : Str} (h : x ∈ slotNames l) : (x,NameKind.local) ∈ l ∨ (x,NameKind.cell) ∈ l := by
  obtain ⟨⟨n,k⟩,h2,rfl⟩ := List.mem_map.mp h
  obtain ⟨h,q⟩ := List.mem_filter.mp h2
  rcases isSlot_inv q with rfl | rfl
  · exact .inl h
  · exact .inr h
theorem kindIn_none {x : Str} : ∀ {l : List (Str × NameKind)},kindIn x l = none → ∀ k,(x,k) ∉ l
  | (m,j) :: r,h,k,hm => by
    by_cases q : sEq x m = true
    · cases (kindIn_hit q).symm.trans h
    · rcases List.mem_cons.mp hm with e | e
      · cases e; exact q ((sEq_iff _ _).mpr rfl)
      · exact kindIn_none ((kindIn_miss q).symm.trans h) k e
theorem slotNames_nodup : ∀ {l : List (Str × NameKind)},nodupNames l = true → (slotNames l).Nodup
  | [],_ => List.nodup_nil
  | (n,k) :: r,h => by
    have h := Bool.and_eq_true_iff.mp (show ((kindIn n r).isNone && nodupNames r) = true from h)
    have ih := slotNames_nodup h.2
    have hn : n ∉ slotNames r := fun q => by
      have z := Option.isNone_iff_eq_none.mp h.1
      rcases slotNames_mem q with y | y
      · exact kindIn_none z _ y
      · exact kindIn_none z _ y
    unfold slotNames
    rw [List.filter_cons]
    cases isSlot k with
    | true => exact List.nodup_cons.mpr ⟨hn,ih⟩
    | false => exact ih
theorem kind_lookup {x : Str} {k : NameKind} {l : List (Str × NameKind)} (h : nodupNames l = true) (m : (x,k) ∈ l) : l.lookup x = some k := by
  rw [← kindIn_eq]; exact nodup_lookup h m
theorem bindL_at {kindOf : Str → Option NameKind} {x : Str} (hk : kindOf x = some .local) : ∀ (binds : List (Str × Value)) (m : Str → Option Value) {v : Value},(binds.map (·.1)).Nodup → (x,v) ∈ binds → bindL kindOf binds m x = some v
  | [],_,_,_,h => by cases h
  | (n,u) :: r,m,v,hd,h => by
    have hd' := List.nodup_cons.mp hd
    have keep : ∀ (r : List (Str × Value)) (m : Str → Option Value),x ∉ r.map (·.1) → bindL kindOf r m x = m x := by
      intro r
      induction r with
      | nil => intro m _; rfl
      | cons y r ih =>
        obtain ⟨n',u'⟩ := y
        intro m hx
        simp only [List.map_cons,List.mem_cons,not_or] at hx
        rw [bindL,ih _ hx.2]
        split
        · simp [hx.1]
        · rfl
    rw [bindL]
    rcases List.mem_cons.mp h with e | e
    · cases e
      rw [if_pos hk,keep r _ hd'.1]; simp
    · exact bindL_at hk r _ hd'.2 e
theorem bindC_at {kindOf : Str → Option NameKind} {x : Str} (hk : kindOf x ≠ some .local) : ∀ (binds : List (Str × Value)) (m : Str → Option Value) {v : Value},(binds.map (·.1)).Nodup → (x,v) ∈ binds → bindC kindOf binds m x = some v
  | [],_,_,_,h => by cases h
  | (n,u) :: r,m,v,hd,h => by
    have hd' := List.nodup_cons.mp hd
    have keep : ∀ (r : List (Str × Value)) (m : Str → Option Value),x ∉ r.map (·.1) → bindC kindOf r m x = m x := by
      intro r
      induction r with
      | nil => intro m _; rfl
      | cons y r ih =>
        obtain ⟨n',u'⟩ := y
        intro m hx
        simp only [List.map_cons,List.mem_cons,not_or] at hx
        rw [bindC,ih _ hx.2]
        split
        · rfl
        · simp [hx.1]
    rw [bindC]
    rcases List.mem_cons.mp h with e | e
    · cases e
      rw [if_neg hk,keep r _ hd'.1]; simp
    · exact bindC_at hk r _ hd'.2 e
theorem mem_zip_of {names : List Str} {vals : List Value} {i : Nat} {n : Str} {v : Value} (h1 : names[i]? = some n) (h2 : vals[i]? = some v) : (n,v) ∈ names.zip vals := by
  have : (names.zip vals)[i]? = some (n,v) := by rw [List.getElem?_zip_eq_some]; exact ⟨h1,h2⟩
  exact List.mem_of_getElem? this
structure FnAt (W : Wd) (h₀ : Heap) (a : Addr) (d : FD) (fd : FuncData) : Prop where
  obj : ∃ o,h₀.get? a = some o ∧ o.data = .func fd
  params : fd.params = d.params
  body : fd.body = .stmts d.body
  scope : fd.scope = d.scope
  gl : fd.globals = W.gl
  bl : fd.builtins = W.bl
  clo : fd.closure = []
  dflt : fd.defaults = .none
  code : h₀.CodeRec fd.code fd.qualname
theorem CodeRec_keeps {h h' : Heap} {c : Value} {q : Str} (x : h.CodeRec c q) (k : ∀ b o,h.get? b = some o → h'.get? b = some o) : h'.CodeRec c q := by
  obtain ⟨c₂,o,vs,t,e₂,g,r⟩ := x
  exact ⟨c₂,o,vs,t,e₂,k _ _ g,r⟩
section
variable {prog : Program} {w : World} {A : Around} {G : Gp} {X : Gx} {P : Par} {W : Wd} {h₀ : Heap} {F : Call}
noncomputable def kEnd (v : V) (h' : H) : KS := fun fl _ h2 => match fl with
  | .ret u => u = v ∧ h2 = h'
  | .next => V.none = v ∧ h2 = h'
  | _ => False
theorem runFn_w {m : FnM} {vs : List V} {h h' : H} {v : V} (e : runFn P F m vs h = some (v,h')) : vs.length = m.np ∧ wSs P F m.body (vs.map some ++ List.replicate (m.ns - m.np) none) h (kEnd v h') := by
  obtain ⟨hlen,e⟩ := if_inv e
  refine ⟨hlen,?_⟩
  cases eb : exs P F m.body (vs.map some ++ List.replicate (m.ns - m.np) none) h with
  | none => rw [eb] at e; exact nn e
  | some r =>
    rw [eb] at e
    obtain ⟨fl,σ',h2⟩ := r
    cases fl with
    | ret u => exact wSs_c _ eb (two_inv e)
    | next => exact wSs_c _ eb (two_inv e)
    | _ => exact nn e
theorem fn_sound {d : FD} {fd : FuncData} {a : Addr} {m : FnM} (hd : trF X d = some m) (hfn : FnAt W h₀ a d fd) (hlim : h₀.NoLimit) (hroom : A.depth < recursionLimit)
    (B : ∀ env,Bd prog w (A.deeper env) G X P W h₀ F) {vs : List V} {h : H} {v : V} {h' : H} (e : runFn P F m vs h = some (v,h')) {I : List Addr} {s : Shared} {ws : List Value} (R : Rel G h₀ I h s) (l : LR I vs ws)
    {RR : Result → Shared → Prop} (hq : ∀ v' s',Pv G h₀ I s h' v v' s' → RR (.ok (.ret v')) s') : codeAny (model prog w) A (.call (.ref a) ⟨ws,[]⟩) RR s := by
  unfold trF at hd
  obtain ⟨hok,hd⟩ := if_inv hd
  cases hd
  have ok := fdOk_of hok
  obtain ⟨hlen,e⟩ := runFn_w e
  obtain ⟨o,ho,hdata⟩ := hfn.obj
  have hwl : ws.length = d.params.args.length := l.1.symm.trans hlen
  have hsn := slotNames_nodup ok.nodup
  have hpn : (d.params.args.map (·.arg)).Nodup := by rw [ok.take]; exact hsn.sublist (List.take_sublist _ _)
  have hbind := bind_plain (fd := fd) (vals := ws) (by rw [hfn.params]; exact ok.pos) (by rw [hfn.params]; exact ok.va) (by rw [hfn.params]; exact ok.ko) (by rw [hfn.params]; exact ok.kw) hfn.dflt
    (by rw [hfn.params]; exact hwl) (by rw [hfn.params]; exact hpn)
  rw [hfn.params] at hbind
  have hmemz : ∀ x ∈ (d.params.args.map (·.arg)).zip ws,x.1 ∈ slotNames d.scope.names := fun x hx => by
    have h1 := (List.of_mem_zip (a := x.1) (b := x.2) hx).1
    rw [ok.take] at h1
    exact List.mem_of_mem_take h1
  refine codeAny_call_cells hroom (R.stays _ _ ho) hdata (hlim.keeps R.stays) (CodeRec_keeps hfn.code R.stays) hfn.body hbind hfn.clo (fun x hx => ?_) (fun s₁ ic => ?_) (by rw [hfn.scope]; exact ok.co) (by rw [hfn.scope]; exact ok.gen) (by rw [hfn.scope]; exact ok.kind)
  · rw [hfn.scope]
    rcases slotNames_mem (hmemz x hx) with q | q
    · exact .inl (kind_lookup ok.nodup q)
    · obtain ⟨c,hc⟩ := cellsFrom_has d.scope.names (s.heap.objs.size + 1) x.1 q
      exact .inr ⟨kind_lookup ok.nodup q,by rw [hc]; rfl⟩
  · obtain ⟨⟨⟨h₁,tk,rfl⟩,hns,hkeep,_⟩,hcell,hapart,habove⟩ := ic
    obtain ⟨env,henv⟩ : ∃ env,callEnvC fd s.heap.objs.size a = env := ⟨_,rfl⟩
    rw [henv] at hns hcell hapart habove ⊢
    have e1 : env.scope = d.scope := by rw [← henv,← hfn.scope]; rfl
    have e2 : env.locals = s.heap.objs.size := by rw [← henv]; rfl
    have e3 : env.cells = cellsFrom (s.heap.objs.size + 1) d.scope.names [] := by rw [← henv,← hfn.scope]; rfl
    have hkof : ∀ x,env.kindOf x = d.scope.names.lookup x := fun x => by unfold Env.kindOf; rw [e1]
    have e4 : env.globals = W.gl := by rw [← henv,← hfn.gl]; rfl
    have e5 : env.builtins = W.bl := by rw [← henv,← hfn.bl]; rfl
    have hfree : ∀ b,s.heap.objs.size ≤ b → s.heap.get? b = none := fun b hb => Heap.get?_none_of_le hb
    have hown : ∀ b,Own env b → s.heap.get? b = none := fun b hb => by
      rcases hb with rfl | ⟨n,hn⟩
      · exact hfree _ (by rw [e2]; exact Nat.le_refl _)
      · have := habove n b (mem_of_lookup hn)
        rw [e2] at this
        exact hfree _ (Nat.le_of_lt this)
    have hbn : (((d.params.args.map (·.arg)).zip ws).map (·.1)).Nodup := by rw [List.map_fst_zip (by simp [hwl])]; exact hpn
    have hval : ∀ (x : Str) (i : Nat) (u : V),idxOf? x (slotNames d.scope.names) = some i → (vs.map some ++ List.replicate ((fdCx d).ns.length - d.params.args.length) none)[i]? = some (some u) →
        ∃ u',(x,u') ∈ (d.params.args.map (·.arg)).zip ws ∧ VR I u u' := fun x i u hi hu => by
      have hiv : i < vs.length := by
        refine Nat.lt_of_not_le fun q => ?_
        rw [List.getElem?_append_right (by simpa using q),List.getElem?_replicate] at hu
        split at hu <;> cases hu
      rw [List.getElem?_append_left (by simpa using hiv),List.getElem?_map,List.getElem?_eq_getElem hiv] at hu
      cases hu
      obtain ⟨u',hu',hr⟩ := l.at (List.getElem?_eq_getElem hiv)
      refine ⟨u',mem_zip_of (i := i) ?_ hu',hr⟩
      rw [ok.take,List.getElem?_take_of_lt (by have hl2 : vs.length = d.params.args.length := hlen; rw [← hl2]; exact hiv)]
      exact idxOf_get x hi
    have f : FrameR W (fdCx d) env (vs.map some ++ List.replicate ((fdCx d).ns.length - d.params.args.length) none) I h₀ { s with heap := h₁,toks := tk } := by
      refine ⟨by rw [e1]; exact ok.kind,by rw [e1]; rfl,e4,e5,⟨_,hns,fun x i u hk hi hu => ?_⟩,fun x hk => ?_,fun n n' c h1 h2 => name_of_addr hapart (mem_of_lookup h1) (mem_of_lookup h2),fun n c hc => ⟨?_,?_⟩,fun b hb => R.notMem (hown b hb)⟩
      · obtain ⟨u',hm,hr⟩ := hval x i u hi hu
        refine ⟨u',bindL_at ?_ _ _ hbn hm,hr⟩
        rw [hkof,← kindIn_eq]; exact hk
      · obtain ⟨c,hc⟩ := cellsFrom_has d.scope.names (s.heap.objs.size + 1) x (kindIn_mem hk)
        rw [← e3] at hc
        refine ⟨c,_,hc,hcell x c hc,fun i u hi hu => ?_⟩
        obtain ⟨u',hm,hr⟩ := hval x i u hi hu
        refine ⟨u',bindC_at ?_ _ _ hbn hm,hr⟩
        rw [hkof,← kindIn_eq]
        intro q; rw [show kindIn x d.scope.names = some .cell from hk] at q; cases q
      · have := habove n c (mem_of_lookup hc); exact Nat.ne_of_gt this
      · obtain ⟨o',ho',_⟩ := hcell n c hc
        rw [show ({ s with heap := h₁,toks := tk } : Shared).heap.get? c = some o' from ho']; rfl
    have X1 : Ext NoP I s I { s with heap := h₁,toks := tk } := Ext.keeps hkeep
    have R1 : Rel G h₀ I h { s with heap := h₁,toks := tk } := R.keeps hkeep
    have fin : ∀ (u : V) (u' : Value) (I' : List Addr) (h2 : H) (s' : Shared),Ext (Own env) I { s with heap := h₁,toks := tk } I' s' → Rel G h₀ I' h2 s' → VR I' u u' → u = v → h2 = h' → RR (.ok (.ret u')) s' := fun u u' I' h2 s' X2 R2 hu e1 e2 => by
      subst e1 e2
      exact hq _ _ ⟨I',((f.up X1).trans X2).fresh hown,R2,hu⟩
    refine sndSs_all (B env) d.body (fdCx d) env _ I h _ _ _ _ f R1 e fun fl σ2 h2 fl' I' s' X2 R2 f2 r2 k => ?_
    cases fl with
    | ret u => obtain ⟨u',rfl,hu⟩ := r2; exact fin u u' I' h2 s' X2 R2 hu k.1 k.2
    | next => cases r2; exact fin .none .none I' h2 s' X2 R2 rfl k.1 k.2
    | _ => exact k.elim
end
structure ClsOk (K : Frag) (G : Gp) (C fI : Addr) : Prop where
  makes : makesIn K C = true
  init : findIn K (.ref C) "__init__" = some (some (.ref fI))
  fn : typeIn K (.ref fI) = some (.type "function")
  hasDict : (clsIn K C).any (·.hasDict) = true
  over : plainOver K C = true
  getat : findIn K (.ref C) "__getattribute__" = some (some (.builtin "object.__getattribute__"))
  setat : findIn K (.ref C) "__setattr__" = some (some (.builtin "object.__setattr__"))
  attrs : ∀ k,k < G.na → findIn K (.ref C) (G.an k) = some none
theorem look_find {G : Gp} {I : List Addr} (inj : ∀ i j,i < G.na → j < G.na → G.an i = G.an j → i = j) {k : Nat} (hk : k < G.na) {x : V} : ∀ {fs : List (Nat × V)} {es : List DictEntry},es.length = fs.length →
    (∀ (i : Nat) (k : Nat) (x : V),fs[i]? = some (k,x) → k < G.na ∧ ∃ e : DictEntry,es[i]? = some e ∧ (∃ t,e.key = .str (G.an k) t) ∧ VR I x e.val) → lookF k fs = some x →
    ∃ e : DictEntry,es.find? (·.key.isStr (G.an k)) = some e ∧ VR I x e.val
  | [],_,_,_,h => by cases h
  | (j,y) :: r,[],hl,_,_ => by cases hl
  | (j,y) :: r,e :: es,hl,hf,h => by
    obtain ⟨hj,e',he,⟨t,ht⟩,hv⟩ := hf 0 j y rfl
    cases he
    by_cases q : k = j
    · subst q; cases (if_pos rfl).symm.trans h
      exact ⟨e,by rw [List.find?_cons]; simp [ht,Value.isStr],hv⟩
    · have h : lookF k r = some x := (if_neg q).symm.trans h
      have hne : (e.key.isStr (G.an k)) = false := by
        rw [ht]; show (G.an j == G.an k) = false
        exact beq_eq_false_iff_ne.mpr fun z => q (inj j k hj hk z).symm
      obtain ⟨e2,h1,h2⟩ := look_find inj hk (fs := r) (es := es) (by simpa using hl) (fun i k x z => hf (i + 1) k x (by simpa using z)) h
      exact ⟨e2,by rw [List.find?_cons,hne]; exact h1,h2⟩
theorem put_hit {k j : Nat} {x w : V} {r : List (Nat × V)} (h : k = j) : putF k x ((j,w) :: r) = (k,x) :: r := if_pos h
theorem put_miss {k j : Nat} {x w : V} {r : List (Nat × V)} (h : ¬ k = j) : putF k x ((j,w) :: r) = (j,w) :: putF k x r := if_neg h
theorem putF_len (k : Nat) (x : V) : ∀ fs : List (Nat × V),(putF k x fs).length ≤ fs.length + 1
  | [] => Nat.le_refl 1
  | (j,w) :: r => by
    by_cases q : k = j
    · rw [put_hit q]; exact Nat.le_succ _
    · rw [put_miss q]; exact Nat.succ_le_succ (putF_len k x r)
theorem put_rel {G : Gp} {I : List Addr} (inj : ∀ i j,i < G.na → j < G.na → G.an i = G.an j → i = j) {k : Nat} (hk : k < G.na) {x : V} {x' : Value} (hx : VR I x x') {hsh : Int} {tk : Tok} : ∀ {fs : List (Nat × V)} {es : List DictEntry},es.length = fs.length →
    (∀ (i : Nat) (k : Nat) (x : V),fs[i]? = some (k,x) → k < G.na ∧ ∃ e : DictEntry,es[i]? = some e ∧ (∃ t,e.key = .str (G.an k) t) ∧ VR I x e.val) →
    (putL (G.an k) hsh (.str (G.an k) tk) x' es).length = (putF k x fs).length ∧
      ∀ (i : Nat) (j : Nat) (y : V),(putF k x fs)[i]? = some (j,y) → j < G.na ∧ ∃ e : DictEntry,(putL (G.an k) hsh (.str (G.an k) tk) x' es)[i]? = some e ∧ (∃ t,e.key = .str (G.an j) t) ∧ VR I y e.val
  | [],[],_,_ => by
    refine ⟨rfl,fun i j y h => ?_⟩
    cases i with
    | zero => cases h; exact ⟨hk,_,rfl,⟨tk,rfl⟩,hx⟩
    | succ i => cases i <;> cases h
  | [],_ :: _,hl,_ => by cases hl
  | _ :: _,[],hl,_ => by cases hl
  | (j,y) :: r,e :: es,hl,hf => by
    obtain ⟨hj,e',he,⟨t,ht⟩,hv⟩ := hf 0 j y rfl
    cases he
    rw [putL]
    by_cases q : k = j
    · subst q
      rw [put_hit rfl,if_pos (by rw [ht]; show (G.an k == G.an k) = true; simp)]
      refine ⟨by simpa using hl,fun i j' y' h => ?_⟩
      cases i with
      | zero => simp at h; obtain ⟨rfl,rfl⟩ := h; exact ⟨hk,_,rfl,⟨t,ht⟩,hx⟩
      | succ i => exact hf (i + 1) j' y' (by simpa using h)
    · have hne : ¬ (e.key.isStr (G.an k)) = true := by
        rw [ht]; show ¬ (G.an j == G.an k) = true
        rw [beq_iff_eq]; exact fun z => q (inj j k hj hk z).symm
      rw [put_miss q,if_neg hne]
      obtain ⟨h1,h2⟩ := put_rel inj hk hx (hsh := hsh) (tk := tk) (fs := r) (es := es) (by simpa using hl) (fun i k x z => hf (i + 1) k x (by simpa using z))
      refine ⟨by simpa using h1,fun i j' y' h => ?_⟩
      cases i with
      | zero => exact hf 0 j' y' (by simpa using h)
      | succ i => exact h2 i j' y' (by simpa using h)
theorem no_refkey {G : Gp} {I : List Addr} {fs : List (Nat × V)} {es : List DictEntry} (hl : es.length = fs.length)
    (hf : ∀ (i : Nat) (k : Nat) (x : V),fs[i]? = some (k,x) → k < G.na ∧ ∃ e : DictEntry,es[i]? = some e ∧ (∃ t,e.key = .str (G.an k) t) ∧ VR I x e.val) : es.any (·.refKey) = false := by
  rw [List.any_eq_false]
  intro e he
  obtain ⟨i,hi⟩ := List.getElem?_of_mem he
  have hil : i < fs.length := by rw [← hl]; exact (List.getElem?_eq_some_iff.mp hi).1
  obtain ⟨_,e',he',⟨t,ht⟩,_⟩ := hf i _ _ (List.getElem?_eq_getElem hil)
  rw [hi] at he'; cases he'
  simp [DictEntry.refKey,ht]
theorem handed {I : List Addr} {x : V} {v : Value} (h : VR I x v) : handedIn v = true := by
  cases x with
  | none => cases h; rfl
  | bool b => cases h; rfl
  | int i => obtain ⟨t,rfl⟩ := h; rfl
  | ref a => obtain ⟨b,_,rfl⟩ := h; rfl
  | con a => cases h; rfl
structure KOk (K : Frag) (G : Gp) (fI : Nat → Addr) (h₀ : Heap) : Prop where
  inn : K.In h₀
  cls : ∀ c,G.okc c = true → ClsOk K G (G.cls c) (fI c)
  inj : ∀ i j,i < G.na → j < G.na → G.an i = G.an j → i = j
section
variable {prog : Program} {w : World} {A : Around} {G : Gp} {X : Gx} {P : Par} {W : Wd} {h₀ : Heap} {F : Call} {K : Frag} {fI : Nat → Addr}
theorem getA_sound (C : KOk K G fI h₀) {h : H} {v : V} {k : Nat} {x : V} (e : getAttr h v k = some x) (hk : k < G.na) {I : List Addr} {s : Shared} {v' : Value} (R : Rel G h₀ I h s) (hv : VR I v v')
    {Q E : Value → Shared → Prop} (hq : ∀ r s',Pv G h₀ I s h x r s' → Q r s') : wpAny (model prog w) A (PySem.getAttr v' (G.an k) true) Q E s := by
  obtain ⟨a,rfl,e⟩ := bA_inv e
  obtain ⟨c,d,e1,e⟩ := bC_inv e
  obtain ⟨fs,e2,e⟩ := bD_inv e
  obtain ⟨b,hb,rfl⟩ := hv
  obtain ⟨b',ob,q1,g1,dx,hd,rfl,hc⟩ := R.get e1
  rw [hb] at q1; cases q1
  obtain ⟨dx',od,q2,g2,es,n,rfl,hl,hf⟩ := R.get e2
  rw [hd] at q2; cases q2
  have cl := C.cls c hc
  obtain ⟨en,he,hr⟩ := look_find C.inj hk hl hf e
  obtain ⟨cd,hcd,hdict⟩ := any_some cl.hasDict
  refine get_value (K := K) (C := G.cls c) (od := some (dictOf es n)) (C.inn.keeps R.stays) ⟨g1,rfl,rfl,g2⟩ cl.getat ?_ (handed hr) (hq _ _ ⟨I,Ext.refl.tok _,R.tok _,hr⟩)
  unfold findObj
  rw [hcd,Option.bind_some,cl.attrs k hk,Option.bind_some]
  dsimp only
  rw [Option.bind_some,Option.bind_some]
  dsimp only
  unfold PySem.W.ownOf
  rw [hdict,if_pos rfl]
  dsimp only
  rw [lookIn_dict]
  unfold getL
  rw [he]
  rfl
theorem taker_none {C : Addr} {name : Str} (h : findIn K (.ref C) name = some none) : takerIn K C name = some none := by
  unfold takerIn; rw [h]; rfl
theorem setA_sound (C : KOk K G fI h₀) {h h' : H} {v : V} {k : Nat} {x : V} (e : setAttr h v k x = some h') (hk : k < G.na) {I : List Addr} {s : Shared} {v' x' : Value} (R : Rel G h₀ I h s) (hv : VR I v v') (hx : VR I x x')
    {Q : Unit → Shared → Prop} {E : Value → Shared → Prop} (hq : ∀ s',Ext NoP I s I s' → Rel G h₀ I h' s' → Q () s') : wpAny (model prog w) A (PySem.setAttr v' (G.an k) x') Q E s := by
  obtain ⟨a,rfl,e⟩ := bA_inv e
  obtain ⟨c,d,e1,e⟩ := bC_inv e
  obtain ⟨fs,e2,e⟩ := bD_inv e
  obtain ⟨hlt,e⟩ := if_inv e
  cases e
  obtain ⟨b,hb,rfl⟩ := hv
  obtain ⟨b',ob,q1,g1,dx,hd,rfl,hc⟩ := R.get e1
  rw [hb] at q1; cases q1
  obtain ⟨dx',od,q2,g2,es,n,rfl,hl,hf⟩ := R.get e2
  rw [hd] at q2; cases q2
  have cl := C.cls c hc
  obtain ⟨cd,hcd,hdict⟩ := any_some cl.hasDict
  have inn : K.In s.heap := C.inn.keeps R.stays
  refine set_plain (K := K) (C := G.cls c) (od := some (dictOf es n)) inn ⟨g1,rfl,rfl,g2⟩ cl.setat ?_
  refine osa_open (K := K) (C := G.cls c) (od := some (dictOf es n)) (s := { s with toks := s.toks + 1 }) inn ⟨g1,rfl,rfl,g2⟩ cl.over (taker_none (cl.attrs k hk)) fun bb => ?_
  refine wpAny_bind (wpAny_pure (wpAny_bind (wpAny_bind (wpAny_loadPart (s := { s with toks := s.toks + 1 }) g1 (wpAny_bind (Looks.here (looks_clsIn (K := K) inn hcd) ?_))))))
  rw [hdict]
  refine wpAny_pure (a := some dx) (wpAny_bind (wpAny_pure (wpAny_bind ?_)))
  unfold nsSet
  refine wpAny_bind (wpAny_bind (wpAny_askSetting (wpAny_pure (wpAny_bind (wpAny_mkText (wpAny_bind (wpAny_loadPart (s := { s with toks := s.toks + 1 + 1 }) g2 ?_)))))))
  dsimp only
  have c0 : (!es.toArray.any (·.key.isStr (G.an k)) && es.toArray.any (·.refKey)) = false := by
    rw [show es.toArray.any (·.refKey) = es.any (·.refKey) by simp,no_refkey hl hf,Bool.and_false]
  rw [aRefKeyMayBeTheName_at,c0]
  obtain ⟨p1,p2⟩ := put_rel (I := I) C.inj hk hx (hsh := PyData.keyHash w.params (G.an k)) (tk := s.toks + 1) hl hf
  refine wpAny_updatePart g2 ?_
  have e3 : (s.heap.update dx (Obj.putName (G.an k) (PyData.keyHash w.params (G.an k)) (.str (G.an k) (s.toks + 1)) x')).get? dx = some (dictOf (putL (G.an k) (PyData.keyHash w.params (G.an k)) (.str (G.an k) (s.toks + 1)) x' es) (putN (G.an k) es n)) := by
    rw [Heap.get?_update_self _ g2 (by rw [putName_dict]; rfl),putName_dict]
  refine wpAny_bind (wpAny_lookBehind e3 (pastItsLine_dict (by
    have hz := putF_len k x fs
    rw [List.size_toArray,p1,sizeLine_eq]; (first | lia | omega))) ?_)
  obtain ⟨R',X'⟩ := R.set (tk := s.toks + 1 + 1) hd (fun c hc => Heap.get?_update_ne _ _ _ _ hc) e3 (o := .dct (putF k x fs)) ⟨_,_,rfl,p1,p2⟩
  exact wpAny_pure (hq _ X' R')
theorem newC_sound (C : KOk K G fI h₀) {c : Nat} (hc : G.okc c = true) {vs : List V} {h h' : H} {I : List Addr} {s : Shared} {ws : List Value} (R : Rel G h₀ I h s) (l : LR I vs ws)
    (hcall : ∀ I' s' ws',Rel G h₀ I' (h ++ [.inst c (h.length + 1),.dct []]) s' → LR I' (V.ref h.length :: vs) ws' → ∀ RR : Result → Shared → Prop,(∀ v' s'',Pv G h₀ I' s' h' .none v' s'' → RR (.ok (.ret v')) s'') →
      codeAny (model prog w) (A.under (.builtin "type.__call__" ⟨.ref (G.cls c) :: ws,[]⟩)) (.call (.ref (fI c)) ⟨ws',[]⟩) RR s')
    {Q E : Value → Shared → Prop} (hq : ∀ v' s',Pv G h₀ I s h' (.ref h.length) v' s' → Q v' s') : wpAny (model prog w) A (call (.ref (G.cls c)) ws) Q E s := by
  have cl := C.cls c hc
  have inn : K.In s.heap := C.inn.keeps R.stays
  obtain ⟨hh,g,d,t,os⟩ := s
  refine wpAny_call ?_
  refine make_core (makes_of (K := K) inn cl.makes) (looks_findIn (K := K) inn cl.init) (fun self => bind_fn (K := K) inn self cl.fn) (.inl rfl) ?_
  have k1 : ∀ b o,hh.get? b = some o → (hh.push emptyDict).get? b = some o := fun b o e => Heap.get?_push_of_some _ e
  have k2 : ∀ b o,(hh.push emptyDict).get? b = some o → ((hh.push emptyDict).push (instObj (G.cls c) hh.objs.size)).get? b = some o := fun b o e => Heap.get?_push_of_some _ e
  have hD := Heap.get?_push_size hh (o := emptyDict) rfl
  have hx : ((hh.push emptyDict).push (instObj (G.cls c) hh.objs.size)).get? (hh.objs.size + 1) = some (instObj (G.cls c) hh.objs.size) := by
    have := Heap.get?_push_size (hh.push emptyDict) (o := instObj (G.cls c) hh.objs.size) rfl
    rwa [Heap.size_push] at this
  let s2 : Shared := ⟨(hh.push emptyDict).push (instObj (G.cls c) hh.objs.size),g,d,t,os⟩
  have n0 : hh.get? hh.objs.size = none := Heap.get?_none_of_le (Nat.le_refl _)
  have n1 : hh.get? (hh.objs.size + 1) = none := Heap.get?_none_of_le (Nat.le_succ _)
  have R1 : Rel G h₀ I h s2 := R.keeps (tk := t) fun b o e => k2 b o (k1 b o e)
  have Xk : Ext NoP I ⟨hh,g,d,t,os⟩ I s2 := Ext.keeps (tk := t) fun b o e => k2 b o (k1 b o e)
  have m0 := R.notMem (b := hh.objs.size) n0
  have m1 := R.notMem (b := hh.objs.size + 1) n1
  have m1' : hh.objs.size + 1 ∉ I ++ [hh.objs.size + 1] → False := fun q => q (by simp)
  have lenI := R.len
  have R3 : Rel G h₀ (I ++ [hh.objs.size + 1] ++ [hh.objs.size]) (h ++ [.inst c (h.length + 1)] ++ [.dct []]) s2 := by
    refine ⟨R1.stays,by simp [lenI],?_,fun b hb => ?_,fun i o b a e => ?_⟩
    · rw [List.nodup_append,List.nodup_append]
      refine ⟨⟨R.nodup,by simp,fun a ha b hb => ?_⟩,by simp,fun a ha b hb => ?_⟩
      · rw [List.mem_singleton.mp hb]; rintro rfl; exact m1.1 ha
      · rw [List.mem_singleton.mp hb]
        rintro rfl
        rcases List.mem_append.mp ha with q | q
        · exact m0.1 q
        · simp at q
    · rcases List.mem_append.mp hb with q | q
      · rcases List.mem_append.mp q with q | q
        · exact R.fresh b q
        · rw [List.mem_singleton.mp q]; exact m1.2
      · rw [List.mem_singleton.mp q]; exact m0.2
    · by_cases hi : i < h.length
      · rw [List.append_assoc,List.getElem?_append_left hi] at a
        rw [List.append_assoc,List.getElem?_append_left (by rw [lenI]; exact hi)] at e
        obtain ⟨ob,g1,r⟩ := R1.at_ i o b a e
        exact ⟨ob,g1,r.mono (by rw [List.append_assoc]; exact List.prefix_append _ _)⟩
      · rw [List.append_assoc,List.getElem?_append_right (by (first | lia | omega))] at a
        rw [List.append_assoc,List.getElem?_append_right (by rw [lenI]; (first | lia | omega)),lenI] at e
        have hi2 := (List.getElem?_eq_some_iff.mp a).1
        simp at hi2
        rcases (show i - h.length = 0 ∨ i - h.length = 1 by (first | lia | omega)) with q | q
        · rw [q] at a e
          simp at a e
          subst a e
          refine ⟨_,hx,hh.objs.size,?_,rfl,hc⟩
          rw [List.append_assoc,List.getElem?_append_right (by rw [lenI]; (first | lia | omega)),lenI]
          simp
        · rw [q] at a e
          simp at a e
          subst a e
          exact ⟨_,k2 _ _ hD,[],0,rfl,rfl,fun i k x z => by simp at z⟩
  have R3' : Rel G h₀ (I ++ [hh.objs.size + 1,hh.objs.size]) (h ++ [.inst c (h.length + 1),.dct []]) s2 := by
    rw [List.append_assoc,List.append_assoc] at R3; exact R3
  have pre : I <+: I ++ [hh.objs.size + 1,hh.objs.size] := List.prefix_append _ _
  have X3 : Ext NoP I ⟨hh,g,d,t,os⟩ (I ++ [hh.objs.size + 1,hh.objs.size]) s2 :=
    ⟨Xk.same,pre,fun b hb => by
      rcases List.mem_append.mp hb with q | q
      · exact .inl q
      · rcases List.mem_cons.mp q with rfl | q
        · exact .inr n1
        · rw [List.mem_singleton.mp q]; exact .inr n0,Xk.keep,Xk.live,fun _ _ => .inr fun q => q⟩
  have vx : VR (I ++ [hh.objs.size + 1,hh.objs.size]) (.ref h.length) (.ref (hh.objs.size + 1)) :=
    ⟨hh.objs.size + 1,by rw [← lenI,List.getElem?_append_right (Nat.le_refl _),Nat.sub_self]; rfl,rfl⟩
  refine hcall _ s2 (.ref (hh.objs.size + 1) :: ws) R3' (.cons vx (l.mono pre)) _ fun v' s'' ⟨I4,X4,R4,hn⟩ => ?_
  cases hn
  exact ⟨rfl,hq _ _ ⟨I4,X3.trans X4,R4,vx.mono X4.pre⟩⟩
end
noncomputable def Room (n : Nat) (A : Around) : Prop := A.handled = none ∧ A.depth + 2 * n + 2 < recursionLimit ∧ A.units + 10 * n + 64 < cLine
theorem Room.deeper {n : Nat} {A : Around} (h : Room (n + 1) A) (env : Env) : Room n (A.deeper env) := by
  obtain ⟨a,b,c⟩ := h
  refine ⟨a,?_,?_⟩
  · show A.depth + 1 + 2 * n + 2 < recursionLimit; (first | lia | omega)
  · show A.units + 3 + 10 * n + 64 < cLine; (first | lia | omega)
theorem Room.deeper' {n : Nat} {A : Around} (h : Room (n + 1) A) (env : Env) (C : Addr) (rest : List Value) : Room n ((A.deeper env).under (.builtin "type.__call__" ⟨.ref C :: rest,[]⟩)) := by
  obtain ⟨a,b,c⟩ := h
  refine ⟨a,?_,?_⟩
  · show A.depth + 1 + (Code.builtin "type.__call__" ⟨.ref C :: rest,[]⟩).weight + 2 * n + 2 < recursionLimit
    rw [show (Code.builtin "type.__call__" ⟨.ref C :: rest,[]⟩).weight = 1 from rfl]; (first | lia | omega)
  · show A.units + 3 + (Code.builtin "type.__call__" ⟨.ref C :: rest,[]⟩).cUnits + 10 * n + 64 < cLine
    rw [show (Code.builtin "type.__call__" ⟨.ref C :: rest,[]⟩).cUnits = 1 from rfl]; (first | lia | omega)
structure Tp (prog : Program) (w : World) (G : Gp) (P : Par) (W : Wd) (h₀ : Heap) (K : Frag) : Prop where
  con : ConOk G P h₀
  g : h₀.Ns W.gl W.mg
  b : h₀.Ns W.bl W.mb
  const : ∀ x k,constIn x gx.consts = some k → ∃ t,W.mg x = some (.int k t)
  tab : ∀ x k,idxOf? x gx.tabs = some k → ∃ v,W.mg x = some v ∧ VR [] (P.tabs k) v
  fn : ∀ x i,idxOf? x gx.fns = some i → 5 ≤ i → W.mg x = some (.ref (W.fa i)) ∧ i < fdList.length
  cls : ∀ x c,idxOf? x gx.cls = some c → W.mg x = some (.ref (G.cls c))
  bi : ∀ x k,idxOf? x bis = some k → W.mg x = none ∧ W.mb x = some (biFn k)
  rng : W.mg "range" = none ∧ W.mb "range" = some (.type "range")
  an : ∀ x k,idxOf? x gx.attrs = some k → G.an k = x ∧ k < G.na
  okC : ∀ x c,idxOf? x gx.cls = some c → G.okc c = true ∨ ∀ n vs h,callN P fnT n (P.inits c) vs h = none
  lim : h₀.NoLimit
  kok : KOk K G (fun c => W.fa (P.inits c)) h₀
  fns : ∀ f d,fdList[f]? = some d → ∃ fd,FnAt W h₀ (W.fa f) d fd
section
variable {prog : Program} {w : World} {A : Around} {G : Gp} {P : Par} {W : Wd} {h₀ : Heap} {K : Frag}
noncomputable def CallOk (prog : Program) (w : World) (G : Gp) (P : Par) (W : Wd) (h₀ : Heap) (n : Nat) (A : Around) : Prop :=
  ∀ f vs (h : H) v h',callN P fnT n f vs h = some (v,h') → ∀ (I : List Addr) (s : Shared) (ws : List Value),Rel G h₀ I h s → LR I vs ws → ∀ RR : Result → Shared → Prop,(∀ v' s',Pv G h₀ I s h' v v' s' → RR (.ok (.ret v')) s') →
    codeAny (model prog w) A (.call (.ref (W.fa f)) ⟨ws,[]⟩) RR s
theorem bd_of (T : Tp prog w G P W h₀ K) {n : Nat} (hh : A.handled = none) (hu : A.units + 64 < cLine) (h1 : CallOk prog w G P W h₀ n A)
    (h2 : ∀ C ws,CallOk prog w G P W h₀ n (A.under (.builtin "type.__call__" ⟨.ref C :: ws,[]⟩))) : Bd prog w A G gx P W h₀ (callN P fnT n) where
  con := T.con
  g := T.g
  b := T.b
  const := T.const
  tab := T.tab
  fn := fun x i h hi => (T.fn x i h hi).1
  cls := T.cls
  bi := T.bi
  rng := T.rng
  an := T.an
  hh := hh
  hu := hu
  keepF := fun x i h hi => by
    obtain ⟨fd,hfd⟩ := T.fns i _ (List.getElem?_eq_getElem (T.fn x i h hi).2)
    obtain ⟨o,a,b⟩ := hfd.obj
    exact ⟨o,fd,a,b⟩
  okC := fun x c h => (T.okC x c h).imp id fun z vs h => z n vs h
  keepC := fun c hp hc hs => by
    have M := makes_of (M := model prog w) (K := K) (T.kok.inn.keeps hs) (T.kok.cls c hc).makes
    obtain ⟨oc,od,cd,sl,ho,_⟩ := M.obj
    refine (Looks.ld (part := none) ho).andThen ?_
    exact (M.call.andThen (by exact .now))
  callF := fun f vs h v h' e I s ws R l Q E hq => wpAny_call (h1 f vs h v h' e I s ws R l _ fun v' s' p => hq v' s' p)
  newC := fun c vs h h' hc e I s ws R l Q E hq => newC_sound T.kok hc R l (fun I' s' ws' R' l' RR hR => h2 (G.cls c) ws (P.inits c) _ _ .none h' e I' s' ws' R' l' RR hR) hq
  getA := fun h v k x e hk I s v' R hv Q E hq => getA_sound T.kok e hk R hv hq
  setA := fun h h' v k x e hk Γ env σ I s v' x' f R hv hx Q E hq => setA_sound T.kok e hk R hv hx fun s' X' R' => hq s' ((f.ext0 X').up X') R' (f.ext0 X')
theorem callN_sound (T : Tp prog w G P W h₀ K) : ∀ (n : Nat) (A : Around),Room n A → CallOk prog w G P W h₀ n A
  | 0,_,_ => fun f vs h v h' e => by exact nn e
  | n + 1,A,hr => fun f vs h v h' e I s ws R l RR hq => by
    have ih := callN_sound T n
    have hn : Room n A := by obtain ⟨a,b,c⟩ := hr; exact ⟨a,by (first | lia | omega),by (first | lia | omega)⟩
    by_cases hf : f = n
    · subst hf
      obtain ⟨m,hm,e⟩ := bq_inv ((if_pos rfl).symm.trans e)
      obtain ⟨d,hd,hm⟩ := bq_inv hm
      obtain ⟨fd,hfd⟩ := T.fns f d hd
      refine fn_sound (F := callN P fnT f) hm hfd T.lim (by obtain ⟨_,b,_⟩ := hr; (first | lia | omega)) (fun env => ?_) e R l hq
      have hd2 := hr.deeper env
      refine bd_of T hd2.1 (by obtain ⟨_,_,c⟩ := hd2; (first | lia | omega)) (ih _ hd2) fun C ws => ih _ (hr.deeper' env C ws)
    · exact ih A hn f vs h v h' ((if_neg hf).symm.trans e) I s ws R l RR hq
end
end Mine
namespace Mine
open PySem
noncomputable def tabL : List Nat := [105,106,400,407,548,556,565,574]
noncomputable def conL : List (Nat × O) := [
  (105,.tup [.int 0,.int 1,.int 0,.int (-1),.int 1,.int 1,.int (-1),.int (-1)]),
  (106,.tup [.int 1,.int 0,.int (-1),.int 0,.int 1,.int (-1),.int (-1),.int 1]),
  (394,.tup [.int 5,.int 32]),
  (395,.tup [.int 55,.int 41]),
  (396,.tup [.int 77,.int 56]),
  (397,.tup [.int 89,.int 119]),
  (398,.tup [.int 79,.int 162]),
  (399,.tup [.int 0,.int 0]),
  (400,.lst [.none,.con 394,.con 395,.con 396,.con 397,.con 398,.con 399]),
  (401,.tup [.int 3,.int 44]),
  (402,.tup [.int 37,.int 68]),
  (403,.tup [.int 42,.int 60]),
  (404,.tup [.int 0,.int 39]),
  (405,.tup [.int 58,.int 43]),
  (406,.tup [.int 0,.int 0]),
  (407,.lst [.none,.con 401,.con 402,.con 403,.con 404,.con 405,.con 406]),
  (541,.tup [.int 0,.int 0]),
  (542,.tup [.int 5,.int 32]),
  (543,.tup [.int 55,.int 41]),
  (544,.tup [.int 77,.int 56]),
  (545,.tup [.int 89,.int 119]),
  (546,.tup [.int 79,.int 162]),
  (547,.tup [.int 0,.int 0]),
  (548,.lst [.con 541,.con 542,.con 543,.con 544,.con 545,.con 546,.con 547]),
  (549,.tup [.int 0,.int 0]),
  (550,.tup [.int 3,.int 44]),
  (551,.tup [.int 37,.int 68]),
  (552,.tup [.int 42,.int 60]),
  (553,.tup [.int 0,.int 39]),
  (554,.tup [.int 58,.int 43]),
  (555,.tup [.int 0,.int 0]),
  (556,.lst [.con 549,.con 550,.con 551,.con 552,.con 553,.con 554,.con 555]),
  (557,.tup [.int 0,.int 1]),
  (558,.tup [.int 1,.int 0]),
  (559,.tup [.int 0,.int (-1)]),
  (560,.tup [.int (-1),.int 0]),
  (561,.tup [.int 1,.int 1]),
  (562,.tup [.int 1,.int (-1)]),
  (563,.tup [.int (-1),.int (-1)]),
  (564,.tup [.int (-1),.int 1]),
  (565,.lst [.con 557,.con 558,.con 559,.con 560,.con 561,.con 562,.con 563,.con 564]),
  (566,.tup [.int 1,.int 2]),
  (567,.tup [.int 2,.int 1]),
  (568,.tup [.int 2,.int (-1)]),
  (569,.tup [.int 1,.int (-2)]),
  (570,.tup [.int (-1),.int (-2)]),
  (571,.tup [.int (-2),.int (-1)]),
  (572,.tup [.int (-2),.int 1]),
  (573,.tup [.int (-1),.int 2]),
  (574,.lst [.con 566,.con 567,.con 568,.con 569,.con 570,.con 571,.con 572,.con 573])]
noncomputable def con0 (a : Nat) : Option O := conL.lookup a
noncomputable def P0 (sa : Nat) (zs : List Int) : Par := ⟨fun a => match con0 a with | some o => some o | none => if a = sa then some (.lst (zs.map .int)) else none,fun k => .con (tabL.getD k 0),id⟩
noncomputable def LawTrue : Prop := ∀ (sa : Nat) (zs : List Int),673 ≤ sa → zs.length ≤ 63 → ∃ h',callN (P0 sa zs) fnT 79 78 [.con sa] [] = some (.bool true,h')
end Mine
namespace Mine
open PySem PySem.W
noncomputable def topRunT (tb : String → Option Builtin) (p : Program) (w : World) (n₀ : Nat) (ann : Option Value) : Nat → SharedT → Thread → Option SharedT
  | 0,_,_ => none
  | n + 1,s,t => bif through t then some s else bif stepOk n₀ ann t then bq (stepT (denote tb) p w s t) fun r => topRunT tb p w n₀ ann n r.1 r.2 else none
theorem topRunT_of {tb : String → Option Builtin} {p : Program} {w : World} {n₀ : Nat} {ann : Option Value} : ∀ {n : Nat} {s s' : SharedT} {t : Thread},topRunT tb p w n₀ ann n s t = some s' → topRun tb p w n₀ ann n s.abs t = some s'.abs
  | 0,_,_,_,h => by cases h
  | n + 1,s,s',t,h => by
    have h : (bif through t then some s else bif stepOk n₀ ann t then bq (stepT (denote tb) p w s t) fun r => topRunT tb p w n₀ ann n r.1 r.2 else none) = some s' := h
    unfold topRun
    cases he : through t with
    | true => rw [he] at h; cases h; rfl
    | false =>
      rw [he] at h
      cases hk : stepOk n₀ ann t with
      | false => rw [hk] at h; cases h
      | true =>
        rw [hk] at h
        obtain ⟨⟨s₂,t₂⟩,hs,h⟩ := bq_inv h
        rw [stepT_spec hs]; exact topRunT_of h
noncomputable def treeOf : List Obj → Nat → BT → BT
  | [],_,t => t
  | o :: r,n,t => treeOf r (n + 1) (t.ins n o)
noncomputable def S0T (w : World) (os : OsState) : SharedT := ⟨treeOf (boot_heap w.params).objs.toList 0 .nil,(boot_heap w.params).objs.size,(boot_heap w.params).life,Array.mk [],boot_drawn,boot_toks,os⟩
theorem S0T_abs (w : World) (os : OsState) : (S0T w os).abs = ⟨boot_heap w.params,Array.mk [],boot_drawn,boot_toks,os⟩ := by kernel_rfl
end Mine
namespace Mine
open PySem PySem.W PySem.Calls PyProof.Rows PySem.Challenge
noncomputable def faL : List Nat := [98,120,239,337,533,21,28,35,42,49,56,63,70,77,84,134,141,148,155,162,169,176,183,190,197,204,211,218,225,253,260,267,274,281,288,295,302,309,316,323,351,358,365,372,379,386,393,414,421,428,435,442,449,456,463,470,477,484,491,498,505,512,519,581,586,593,600,607,614,619,626,633,640,645,650,655,660,665,672]
noncomputable def clsL : List Nat := [101,123,242,340,536]
noncomputable def nsL : List Nat := [100,122,241,339,535]
noncomputable def G0 : Gp := ⟨fun c => clsL.getD c 0,fun k => attrNames.getD k "",30,fun c => Nat.ble 1 c && Nat.ble c 4⟩
noncomputable def fa0 (i : Nat) : Addr := faL.getD i 0
noncomputable def isRef (v : Option Value) (a : Nat) : Bool := decide (v = some (.ref a))
noncomputable def isNone {α : Type} (v : Option α) : Bool := match v with | none => true | _ => false
noncomputable def isBlt (v : Option (Option Value)) (n : String) : Bool := decide (v = some (some (.builtin n)))
noncomputable def isTy (v : Option Value) (n : String) : Bool := decide (v = some (.type n))
noncomputable def isAbs {α : Type} (v : Option (Option α)) : Bool := match v with | some w => isNone w | none => false
noncomputable def isRef2 (v : Option (Option Value)) (a : Nat) : Bool := decide (v = some (some (.ref a)))
noncomputable def intIs (i : Int) : Value → Bool
  | .int j _ => decide (j = i)
  | _ => false
noncomputable def isInt (v : Option Value) (i : Int) : Bool := match v with | some w => intIs i w | none => false
theorem isNone_of {α : Type} {v : Option α} (h : isNone v = true) : v = none := by cases v <;> first | rfl | cases h
theorem isAbs_of {α : Type} {v : Option (Option α)} (h : isAbs v = true) : v = some none := by
  cases v with
  | none => exact ff h
  | some w => exact congrArg some (isNone_of h)
theorem intIs_of {i : Int} {w : Value} (h : intIs i w = true) : ∃ t,w = .int i t := by
  cases w with
  | int j t => exact ⟨t,congrArg (fun k => Value.int k t) (of_decide_eq_true h)⟩
  | _ => exact ff h
theorem isInt_of {v : Option Value} {i : Int} (h : isInt v i = true) : ∃ t,v = some (.int i t) := by
  cases v with
  | none => exact ff h
  | some w => obtain ⟨t,e⟩ := intIs_of h; exact ⟨t,congrArg some e⟩
noncomputable def strIs (x : Str) : Value → Bool
  | .str y _ => sEq y x
  | _ => false
noncomputable def codeF (q : Str) : Option Value → Bool
  | some v => strIs q v
  | none => false
noncomputable def codeD (q : Str) : Data → Bool
  | .fields vs => codeF q vs[1]?
  | _ => false
noncomputable def codeO (q : Str) : Option Obj → Bool
  | some o => codeD q o.data
  | none => false
noncomputable def codeV (g : Nat → Option Obj) (q : Str) : Value → Bool
  | .ref c => codeO q (g c)
  | _ => false
theorem codeF_of {q : Str} {v : Option Value} (e : codeF q v = true) : ∃ t,v = some (.str q t) := by
  cases v with
  | none => cases e
  | some v => cases v with
    | str y t => exact ⟨t,congrArg (fun z => some (Value.str z t)) ((sEq_iff _ _).mp e)⟩
    | _ => cases e
theorem codeO_of {q : Str} {o : Option Obj} (e : codeO q o = true) : ∃ b vs t,o = some b ∧ b.data = .fields vs ∧ vs[1]? = some (.str q t) := by
  cases o with
  | none => cases e
  | some b =>
    obtain ⟨c,d,p,s⟩ := b
    cases p with
    | fields vs => obtain ⟨t,e⟩ := codeF_of e; exact ⟨_,vs,t,rfl,rfl,e⟩
    | _ => cases e
theorem codeV_of {h : Heap} {g : Nat → Option Obj} (hg : ∀ a o,g a = some o → h.get? a = some o) {c : Value} {q : Str} (e : codeV g q c = true) : h.CodeRec c q := by
  cases c with
  | ref c => obtain ⟨b,vs,t,e1,e2,e3⟩ := codeO_of e; exact ⟨c,b,vs,t,rfl,hg _ _ e1,e2,e3⟩
  | _ => cases e
structure FnPart where
  params : Arguments
  body : FuncBody
  scope : Scope
  gl : Addr
  bl : Addr
  clo : List (Str × Addr)
  dflt : Value
  ok : Bool
noncomputable def fnD (g : Nat → Option Obj) : Data → Option FnPart
  | .func fd => some ⟨fd.params,fd.body,fd.scope,fd.globals,fd.builtins,fd.closure,fd.defaults,codeV g fd.qualname fd.code⟩
  | _ => none
noncomputable def fnO (g : Nat → Option Obj) : Option Obj → Option FnPart
  | some o => fnD g o.data
  | none => none
noncomputable def fnPart (g : Nat → Option Obj) (a : Addr) : Option FnPart := fnO g (g a)
noncomputable def wantPart (d : FD) : Option FnPart := some ⟨d.params,.stmts d.body,d.scope,mainGlobals,builtinsNs,[],.none,true⟩
theorem fnPart_of {h : Heap} {g : Nat → Option Obj} (hh : ∀ a o,g a = some o → h.get? a = some o) {a : Addr} {d : FD} {W : Wd} (hg : W.gl = mainGlobals) (hb : W.bl = builtinsNs) (e : fnPart g a = wantPart d) : ∃ fd,FnAt W h a d fd := by
  have e : fnO g (g a) = wantPart d := e
  generalize ho : g a = o at e
  cases o with
  | none => exact nn e
  | some o =>
    obtain ⟨c,dd,p,sl⟩ := o
    cases p with
    | func fd =>
      injection (show some _ = some _ from e) with e
      injection e with e1 e2 e3 e4 e5 e6 e7 e8
      exact ⟨fd,⟨_,hh _ _ ho,rfl⟩,e1,e2,e3,e4.trans hg.symm,e5.trans hb.symm,e6,e7,codeV_of hh e8⟩
    | _ => exact nn e
noncomputable def valOk (x : V) (v : Value) : Bool := match x with
  | .none => decide (v = .none)
  | .int i => intIs i v
  | .con a => decide (v = .ref a)
  | _ => false
noncomputable def valsOk : List V → List Value → Bool
  | [],[] => true
  | x :: xs,v :: vs => valOk x v && valsOk xs vs
  | _,_ => false
noncomputable def seqD (xs : List V) : Data → Bool
  | .seq vs _ => valsOk xs vs.toList
  | _ => false
noncomputable def seqOk (t : String) (xs : List V) (b : Obj) : Bool := decide (b.cls = .type t) && (isNone b.dict && (Nat.beq b.slots.size 0 && seqD xs b.data))
noncomputable def obO (o : O) (b : Obj) : Bool := match o with
  | .tup xs => seqOk "tuple" xs b
  | .lst xs => seqOk "list" xs b
  | _ => false
noncomputable def obOk (o : O) (ob : Option Obj) : Bool := match ob with
  | some b => obO o b
  | none => false
theorem valOk_of {x : V} {v : Value} (h : valOk x v = true) : VR [] x v := by
  cases x with
  | none => exact of_decide_eq_true (p := v = .none) h
  | int i => exact intIs_of h
  | con a => exact of_decide_eq_true (p := v = .ref a) h
  | _ => exact ff h
theorem valsOk_of : ∀ {xs : List V} {vs : List Value},valsOk xs vs = true → LR [] xs vs
  | [],[],_ => .nil
  | [],_ :: _,h => by cases h
  | _ :: _,[],h => by cases h
  | x :: xs,v :: vs,h => by
    obtain ⟨a,b⟩ := Bool.and_eq_true_iff.mp h
    exact .cons (valOk_of a) (valsOk_of b)
theorem obj_eq {b : Obj} {c : Value} {d : Option Addr} {p : Data} {s : Array (Option Value)} (h1 : b.cls = c) (h2 : b.dict = d) (h3 : b.data = p) (h4 : b.slots = s) : b = ⟨c,d,p,s⟩ := by
  subst h1 h2 h3 h4; rfl
theorem seqD_of {xs : List V} {p : Data} (h : seqD xs p = true) : ∃ (l : List Value) (n : Nat),p = .seq l.toArray n ∧ LR [] xs l := by
  cases p with
  | seq vs n => exact ⟨vs.toList,n,rfl,valsOk_of h⟩
  | _ => exact ff h
theorem seqOk_of {t : String} {xs : List V} {b : Obj} (h : seqOk t xs b = true) : ∃ (l : List Value) (n : Nat),b = ⟨.type t,none,.seq l.toArray n,#[]⟩ ∧ LR [] xs l :=
  have h0 := Bool.and_eq_true_iff.mp h
  have h1 := Bool.and_eq_true_iff.mp h0.2
  have h2 := Bool.and_eq_true_iff.mp h1.2
  let ⟨l,n,e,r⟩ := seqD_of h2.2
  ⟨l,n,obj_eq (of_decide_eq_true h0.1) (isNone_of h1.1) e (Array.eq_empty_of_size_eq_zero (Nat.eq_of_beq_eq_true h2.1)),r⟩
theorem obOk_of {G : Gp} {o : O} {ob : Option Obj} (h : obOk o ob = true) : ∃ b,ob = some b ∧ OR G [] o b := by
  cases ob with
  | none => exact ff h
  | some b => cases o with
    | tup xs => obtain ⟨l,n,e,r⟩ := seqOk_of h; exact ⟨b,rfl,l,n,e,r⟩
    | lst xs => obtain ⟨l,n,e,r⟩ := seqOk_of h; exact ⟨b,rfl,l,n,e,r⟩
    | _ => cases h
noncomputable def fragOf (g : Nat → Option Obj) : List Nat → Frag
  | [] => []
  | a :: r => match g a with
    | some o => (a,o) :: fragOf g r
    | none => fragOf g r
theorem fragOf_in {h : Heap} {g : Nat → Option Obj} (hg : ∀ a o,g a = some o → h.get? a = some o) : ∀ l : List Nat,Frag.In (fragOf g l) h
  | [] => fun a o e => by exact nn e
  | b :: r => fun a o e => by
    have e : (match g b with | some o => (b,o) :: fragOf g r | none => fragOf g r).lookup a = some o := e
    cases hx : g b with
    | none => rw [hx] at e; exact fragOf_in hg r a o e
    | some x =>
      rw [hx] at e
      by_cases q : a = b
      · subst q; rw [List.lookup_cons_self] at e; cases e; exact hg _ _ hx
      · exact fragOf_in hg r a o (by rw [List.lookup_cons,beq_false_of_ne q] at e; exact e)
theorem strIs_eq (x : Str) (v : Value) : strIs x v = Value.isStrOf x v := by
  cases v with
  | str y t => exact sEq_beq y x
  | _ => rfl
noncomputable def findF (x : Str) (l : List DictEntry) : Option Value := (l.find? fun e => strIs x e.key).map (·.val)
theorem findF_eq (x : Str) (l : List DictEntry) : findF x l = (l.find? fun e => Value.isStrOf x e.key).map (·.val) :=
  congrArg (fun f : DictEntry → Bool => (l.find? f).map DictEntry.val) (funext fun e => strIs_eq x e.key)
noncomputable def nsD (x : Str) : Data → Option Value
  | .dict es _ => findF x es.toList
  | _ => none
noncomputable def nsO (x : Str) : Option Obj → Option Value
  | some o => nsD x o.data
  | none => none
noncomputable def nsF (g : Nat → Option Obj) (a : Nat) (x : Str) : Option Value := nsO x (g a)
noncomputable def isNsD : Data → Bool
  | .dict es _ => es.toList.all fun e => match e.key with | .str _ _ => true | _ => false
  | _ => false
noncomputable def isNsO : Option Obj → Bool
  | some o => isNsD o.data
  | none => false
noncomputable def isNsF (g : Nat → Option Obj) (a : Nat) : Bool := isNsO (g a)
theorem ns_of {h : Heap} {g : Nat → Option Obj} (hg : ∀ a o,g a = some o → h.get? a = some o) {a : Nat} (e : isNsF g a = true) : h.Ns a (nsF g a) := by
  have e : isNsO (g a) = true := e
  show h.Ns a fun x => nsO x (g a)
  generalize ho : g a = o at e
  cases o with
  | none => cases e
  | some o =>
    obtain ⟨c,d,p,sl⟩ := o
    cases p with
    | dict es n =>
      have ho' := hg _ _ ho
      have hi : h.isNs a = true := by
        unfold Heap.isNs
        rw [ho']
        dsimp only
        rw [← Array.all_toList]; exact e
      have := Heap.Ns.of_isNs hi
      have he : h.nsMap a = fun x => findF x es.toList := by
        funext x
        unfold Heap.nsMap
        rw [ho']
        dsimp only
        rw [findF_eq]
        unfold nsFind findBy
        rw [← Array.find?_toList,show (fun e : DictEntry => (fun n (v : Value) => v.isStr n) x e.key) = fun e => Value.isStrOf x e.key from funext fun e => isStr_of x e.key]
      rwa [he] at this
    | _ => cases e
noncomputable def clsOk (K : Frag) (C fI : Nat) : Bool :=
  makesIn K C && isRef2 (findIn K (.ref C) "__init__") fI && isTy (typeIn K (.ref fI)) "function" && (clsIn K C).any (·.hasDict) && plainOver K C &&
  isBlt (findIn K (.ref C) "__getattribute__") "object.__getattribute__" && isBlt (findIn K (.ref C) "__setattr__") "object.__setattr__" &&
  (List.range 30).all fun k => isAbs (findIn K (.ref C) (attrNames.getD k ""))
theorem clsOk_of {K : Frag} {c : Nat} {fI : Addr} (h : clsOk K (G0.cls c) fI = true) : ClsOk K G0 (G0.cls c) fI := by
  unfold clsOk at h
  simp only [Bool.and_eq_true] at h
  obtain ⟨⟨⟨⟨⟨⟨⟨a,b⟩,c1⟩,d⟩,e⟩,f⟩,g⟩,i⟩ := h
  exact ⟨a,of_decide_eq_true b,of_decide_eq_true c1,d,e,of_decide_eq_true f,of_decide_eq_true g,fun k hk => isAbs_of (List.all_eq_true.mp i k (List.mem_range.mpr hk))⟩
noncomputable def kAddrs : List Nat := [123,122,120,242,241,239,340,339,337,536,535,533]
noncomputable def looksOk (g : Nat → Option Obj) : Bool :=
  isNsF g mainGlobals &&
  (gx.fns.zipIdx.all fun (x,i) => Nat.blt i 5 || isRef (nsF g mainGlobals x) (fa0 i)) &&
  (gx.cls.zipIdx.all fun (x,i) => isRef (nsF g mainGlobals x) (clsL.getD i 0)) &&
  (gx.consts.all fun (x,i) => isInt (nsF g mainGlobals x) i) &&
  (gx.tabs.zipIdx.all fun (x,i) => isRef (nsF g mainGlobals x) (tabL.getD i 0)) &&
  (bis.all fun x => isNone (nsF g mainGlobals x)) && isNone (nsF g mainGlobals "range") &&
  (conL.all fun (a,o) => obOk o (g a)) &&
  ([1,2,3,4].all fun c => clsOk (fragOf g kAddrs) (clsL.getD c 0) (fa0 c))
structure Obs where
  fns : List (Option FnPart)
  ok : Bool
noncomputable def obs (g : Nat → Option Obj) : Obs := ⟨faL.map (fnPart g),looksOk g⟩
noncomputable def want : Obs := ⟨fdList.map wantPart,true⟩
structure Fx (h : Heap) : Prop where
  mg : ∃ mg,h.Ns mainGlobals mg ∧ (∀ (x : Str) (i : Nat),gx.fns[i]? = some x → 5 ≤ i → mg x = some (.ref (fa0 i))) ∧ (∀ (x : Str) (i : Nat),gx.cls[i]? = some x → mg x = some (.ref (clsL.getD i 0))) ∧
    (∀ (x : Str) (k : Int),(x,k) ∈ gx.consts → ∃ t,mg x = some (.int k t)) ∧ (∀ (x : Str) (i : Nat),gx.tabs[i]? = some x → mg x = some (.ref (tabL.getD i 0))) ∧ (∀ x ∈ bis,mg x = none) ∧ mg "range" = none
  fns : ∀ (i : Nat) (d : FD),fdList[i]? = some d → ∀ W : Wd,W.gl = mainGlobals → W.bl = builtinsNs → ∃ fd,FnAt W h (fa0 i) d fd
  kls : ∃ K : Frag,K.In h ∧ ∀ c,G0.okc c = true → ClsOk K G0 (G0.cls c) (fa0 c)
  con : ∀ a o,(a,o) ∈ conL → ∃ ob,h.get? a = some ob ∧ OR G0 [] o ob
theorem Fx.keeps {h h' : Heap} (x : Fx h) (k : ∀ b o,h.get? b = some o → h'.get? b = some o) : Fx h' := by
  refine ⟨?_,fun i d hi W hg hb => ?_,?_,fun a o hm => ?_⟩
  · obtain ⟨mg,a,r⟩ := x.mg; exact ⟨mg,a.keeps k,r⟩
  · obtain ⟨fd,f⟩ := x.fns i d hi W hg hb
    obtain ⟨o,ho,hd⟩ := f.obj
    exact ⟨fd,⟨o,k _ _ ho,hd⟩,f.params,f.body,f.scope,f.gl,f.bl,f.clo,f.dflt,CodeRec_keeps f.code k⟩
  · obtain ⟨K,a,b⟩ := x.kls; exact ⟨K,a.keeps k,b⟩
  · obtain ⟨ob,a,b⟩ := x.con a o hm; exact ⟨ob,k _ _ a,b⟩
theorem zip_all {α : Type} {l : List α} {f : α × Nat → Bool} (h : l.zipIdx.all f = true) {i : Nat} {x : α} (hi : l[i]? = some x) : f (x,i) = true := by
  refine List.all_eq_true.mp h (x,i) ?_
  rw [List.mk_mem_zipIdx_iff_getElem?]; exact hi
theorem fx_of {h : Heap} {g : Nat → Option Obj} (hg : ∀ a o,g a = some o → h.get? a = some o) (e : obs g = want) : Fx h := by
  have e1 : faL.map (fnPart g) = fdList.map wantPart := congrArg Obs.fns e
  have e2 : looksOk g = true := congrArg Obs.ok e
  unfold looksOk at e2
  simp only [Bool.and_eq_true] at e2
  obtain ⟨⟨⟨⟨⟨⟨⟨⟨a1,a3⟩,a4⟩,a5⟩,a6⟩,a7⟩,a8⟩,a9⟩,a10⟩ := e2
  refine ⟨⟨_,ns_of hg a1,fun x i hi h5 => ?_,fun x i hi => of_decide_eq_true (zip_all a4 hi),fun x k hk => isInt_of (List.all_eq_true.mp a5 _ hk),fun x i hi => of_decide_eq_true (zip_all a6 hi),fun x hx => isNone_of (List.all_eq_true.mp a7 x hx),isNone_of a8⟩,
    fun i d hi W hgl hb => ?_,⟨_,fragOf_in hg kAddrs,fun c hc => ?_⟩,fun a o hm => ?_⟩
  · have := zip_all a3 hi
    simp only [Bool.or_eq_true] at this
    refine of_decide_eq_true (this.resolve_left fun q => ?_)
    exact absurd (Nat.le_of_ble_eq_true q) (Nat.not_lt_of_le h5)
  · have h2 := congrArg (fun l : List (Option FnPart) => l[i]?) e1
    simp only [List.getElem?_map,hi,Option.map_some] at h2
    obtain ⟨a,ha,hw⟩ := Option.map_eq_some_iff.mp h2
    have : fa0 i = a := by unfold fa0; rw [List.getD_eq_getElem?_getD,ha]; rfl
    rw [this]
    exact fnPart_of hg hgl hb hw
  · have hc' : 1 ≤ c ∧ c ≤ 4 := by
      have := Bool.and_eq_true_iff.mp hc
      exact ⟨Nat.le_of_ble_eq_true this.1,Nat.le_of_ble_eq_true this.2⟩
    refine clsOk_of (List.all_eq_true.mp a10 c ?_)
    rcases hc' with ⟨x,y⟩
    exact (show ∀ c,c < 5 → 1 ≤ c → c ∈ [1,2,3,4] by decide) c (Nat.lt_succ_of_le y) x
  · obtain ⟨b,hb,hr⟩ := obOk_of (G := G0) (List.all_eq_true.mp a9 _ hm)
    exact ⟨b,hg _ _ hb,hr⟩
noncomputable def getT (s : SharedT) (a : Nat) : Option Obj := match Nat.blt a s.n with
  | true => match s.tree.get a with
    | some o => alive o
    | none => none
  | false => none
theorem getT_of {s : SharedT} {a : Nat} {o : Obj} (e : getT s a = some o) : s.abs.heap.get? a = some o := by
  have e : (match Nat.blt a s.n with | true => (match s.tree.get a with | some o => alive o | none => none) | false => none) = some o := e
  cases hl : Nat.blt a s.n with
  | false => rw [hl] at e; exact nn e
  | true =>
    rw [hl] at e
    cases ho : s.tree.get a with
    | none => rw [ho] at e; exact nn e
    | some o' => rw [ho] at e; exact (abs_get (Nat.le_of_ble_eq_true hl) ho).trans e
noncomputable def topRunF (p : Program) (w : World) (n₀ : Nat) (ann : Option Value) : Nat → SharedT → Thread → Option SharedT
  | 0,_,_ => none
  | n + 1,s,t => bif through t then some s else bif PySem.W.Fast.tw6613529449190102663 n₀ ann t then bq (PySem.W.Fast.tw10156331382660048174 (PySem.W.Fast.tw11892475500146522536 PySem.W.Fast.tw14364793385576792824) p w s t) fun r => topRunF p w n₀ ann n r.1 r.2 else none
theorem topRunF_eq {p : Program} {w : World} {n₀ : Nat} {ann : Option Value} : ∀ (n : Nat) (s : SharedT) (t : Thread),topRunF p w n₀ ann n s t = topRunT treeTable p w n₀ ann n s t
  | 0,_,_ => rfl
  | n + 1,s,t => by
    have e : (fun r : SharedT × Thread => topRunF p w n₀ ann n r.1 r.2) = fun r => topRunT treeTable p w n₀ ann n r.1 r.2 := funext fun r => topRunF_eq n r.1 r.2
    show (bif through t then some s else bif PySem.W.Fast.tw6613529449190102663 n₀ ann t then bq (PySem.W.Fast.tw10156331382660048174 (PySem.W.Fast.tw11892475500146522536 PySem.W.Fast.tw14364793385576792824) p w s t) fun r => topRunF p w n₀ ann n r.1 r.2 else none) = _
    rw [e,← PySem.W.Fast.te6613529449190102663,← PySem.W.Fast.te10156331382660048174,← PySem.W.Fast.te11892475500146522536,← PySem.W.Fast.te14364793385576792824]
    rfl
noncomputable def q0 : Program := { pw_nt0453_01 with main := { pw_nt0453_01.main with body := pw_nt0453_01.main.body.drop 109 } }
noncomputable def loose0 : List Str := (gx.fns.drop 5).dropLast ++ gx.cls ++ gx.consts.map (·.1) ++ gx.tabs
noncomputable def mods0 : List Str := importedModules pw_nt0453_01.main.body
theorem run0 : ∀ w os,(topRunF pw_nt0453_01 w 11 (some (.ref 6)) 5000 (S0T w os) (topStub pw_nt0453_01)).map (fun s => (PySem.W.Fast.tw4187177175401517315 q0 loose0 mods0 (fun _ => true) true s.abs,
    staticsOk mods0 (boot_heap w.params) s.abs.heap && namesBound pw_nt0453_01 s.abs.heap && gensDone s.abs && laidKept (boot_heap w.params) s.abs.heap,obs (getT s))) = some (openGood q0 loose0,true,want) := fun w os => by kernel_rfl
open Classical in
noncomputable def yf (s : Shared) : Bool := decide (Fx s.heap)
theorem topFrom_of {tb : String → Option Builtin} {p : Program} {w : World} {N n : Nat} {a : Option Value} {s₀ s₁ : Shared} (h1 : (s₀.heap.isNs mainGlobals && s₀.gens.size == 0) = true) (hn : s₀.heap.objs.size = n) (ha : s₀.heap.nsMap mainGlobals "__annotations__" = a)
    (h2 : topRun tb p w n a N s₀ (topStub p) = some s₁) (h3 : (staticsOk (importedModules p.main.body) s₀.heap s₁.heap && namesBound p s₁.heap && gensDone s₁ && laidKept s₀.heap s₁.heap) = true) : topFrom tb p w N s₀ = some s₁ := by
  subst hn ha
  unfold topFrom
  rw [h1]
  dsimp only
  rw [h2]
  dsimp only [Option.bind_some]
  rw [h3]
theorem left_of {p q : Program} {loose : List Str} {Xt : Shared → Bool} {α : Type} {Yf : Shared → α} {Ya : World → α} {N : Nat} {w : World} {s₀ s₁ : Shared} (h0 : fencedOpening treeTable p w N = some s₀) (h1 : topFrom treeTable p w N s₀ = some s₁)
    (h2 : openSeen q loose (importedModules p.main.body) Xt true s₁ = openGood q loose) (h3 : Yf s₁ = Ya w) :
    (openEnds treeTable p w N).map (fun s => (openSeen q loose (importedModules p.main.body) Xt true s,Yf s)) = some (openGood q loose,Ya w) := by
  unfold openEnds
  rw [h0,Option.bind_some,h1,Option.map_some,h2,h3]
theorem boot_eq : opening pw_nt0453_01 = plainProg pw_nt0453_01.main.scope.names := by kernel_rfl
theorem fence_eq (s : Shared) : fenceModules? pw_nt0453_01 s = some s := by kernel_rfl
theorem boot_ns (P : Params) : (boot_heap P).isNs mainGlobals = true := by kernel_rfl
theorem boot_size (P : Params) : (boot_heap P).objs.size = 11 := by kernel_rfl
theorem boot_ann (P : Params) : (boot_heap P).nsMap mainGlobals "__annotations__" = some (.ref 6) := by kernel_rfl
theorem yf_in {s : Shared} (h : Fx s.heap) : yf s = true := @decide_eq_true _ (Classical.propDecidable _) h
theorem left0 : LeftO pw_nt0453_01 q0 loose0 (fun _ => true) yf (fun _ => true) 5000 := fun w => by
  obtain ⟨s₀,h0,h1⟩ := Option.map_eq_some_iff.mp (boot_open (p := pw_nt0453_01) (N := 5000) boot_eq (by decide) fence_eq w)
  obtain ⟨hp,g,d,t,os⟩ := s₀
  simp only [Prod.mk.injEq] at h1
  obtain ⟨e1,e2,e3,e4⟩ := h1
  obtain ⟨sT,h2,h3⟩ := Option.map_eq_some_iff.mp (run0 w os)
  rw [topRunF_eq] at h2
  have h4 := topRunT_of h2
  rw [S0T_abs] at h4
  simp only [Prod.mk.injEq] at h3
  obtain ⟨h5,h6,h7⟩ := h3
  rw [← PySem.W.Fast.te4187177175401517315] at h5
  rw [← e1,← e2,← e3,← e4] at h4
  rw [← e1] at h6
  exact left_of (Yf := yf) (Ya := fun _ => true) h0 (topFrom_of (s₀ := ⟨hp,g,d,t,os⟩) (by rw [show (⟨hp,g,d,t,os⟩ : Shared).heap = boot_heap w.params from e1,show (⟨hp,g,d,t,os⟩ : Shared).gens = Array.mk [] from e2,boot_ns]; rfl)
    (by rw [show (⟨hp,g,d,t,os⟩ : Shared).heap = boot_heap w.params from e1]; exact boot_size _) (by rw [show (⟨hp,g,d,t,os⟩ : Shared).heap = boot_heap w.params from e1]; exact boot_ann _) h4 h6) h5
    (yf_in (fx_of (fun a o e => getT_of e) h7))
theorem yf_of {s : Shared} (h : yf s = true) : Fx s.heap := @of_decide_eq_true _ (Classical.propDecidable _) h
theorem bis_names : ∀ x ∈ bis,(x != "__name__") = true := by decide +kernel
theorem an_get {x : Str} {k : Nat} (h : idxOf? x attrNames = some k) : G0.an k = x ∧ k < G0.na := by
  have := idxOf_get x h
  refine ⟨by show attrNames.getD k "" = x; rw [List.getD_eq_getElem?_getD,this]; rfl,?_⟩
  exact (List.getElem?_eq_some_iff.mp this).1
noncomputable def distinct : List Str → Bool
  | [] => true
  | x :: r => r.all (fun y => !sEq x y) && distinct r
theorem distinct_of : ∀ {l : List Str},distinct l = true → ∀ i j,l[i]? = l[j]? → i < l.length → j < l.length → i = j
  | [],_,i,j,_,hi,_ => by cases hi
  | x :: r,h,i,j,e,hi,hj => by
    obtain ⟨a,b⟩ := Bool.and_eq_true_iff.mp h
    have no : ∀ k,r[k]? ≠ some x := fun k q => by
      have := List.all_eq_true.mp a x (List.mem_of_getElem? q)
      rw [(sEq_iff x x).mpr rfl] at this; cases this
    cases i with
    | zero => cases j with
      | zero => rfl
      | succ j => exact absurd (by simpa using e.symm) (no j)
    | succ i => cases j with
      | zero => exact absurd (by simpa using e) (no i)
      | succ j => exact congrArg (· + 1) (distinct_of b i j (by simpa using e) (by simpa using hi) (by simpa using hj))
theorem attr_distinct : distinct attrNames = true := by decide +kernel
theorem an_inj (i j : Nat) (hi : i < G0.na) (hj : j < G0.na) (h : G0.an i = G0.an j) : i = j := by
  refine distinct_of attr_distinct i j ?_ hi hj
  have e : ∀ k,k < G0.na → attrNames[k]? = some (G0.an k) := fun k hk => by
    have hk' : k < attrNames.length := hk
    rw [List.getElem?_eq_getElem hk']
    show _ = some (attrNames.getD k "")
    rw [List.getD_eq_getElem?_getD,List.getElem?_eq_getElem hk']; rfl
  rw [e i hi,e j hj,h]
theorem constIn_mem {x : Str} {k : Int} : ∀ {l : List (Str × Int)},constIn x l = some k → (x,k) ∈ l
  | (y,j) :: r,h => by
    have h : (if sEq x y = true then some j else constIn x r) = some k := h
    by_cases q : sEq x y = true
    · rw [if_pos q] at h; cases h; rw [(sEq_iff _ _).mp q]; exact List.mem_cons_self
    · rw [if_neg q] at h; exact List.mem_cons_of_mem _ (constIn_mem h)
theorem fns_len : gx.fns.length = fdList.length := by
  show ((clsOf body).map _ ++ (defsOf body).map _).length = ((clsOf body).map _ ++ defsOf body).length
  simp
theorem init0 : ∃ np ns r,fnT 0 = some ⟨np,ns,.cons (.expr .bad) r⟩ := ⟨_,_,_,rfl⟩
theorem con_mem {a : Nat} {o : O} : ∀ {l : List (Nat × O)},l.lookup a = some o → (a,o) ∈ l
  | (b,x) :: r,h => by
    rw [List.lookup_cons] at h
    cases q : a == b with
    | true => rw [q] at h; cases h; rw [beq_iff_eq.mp q]; exact List.mem_cons_self
    | false => rw [q] at h; exact List.mem_cons_of_mem _ (con_mem h)
theorem run_bad {P : Par} {F : Call} {np ns : Nat} {r : MSs} {vs : List V} {h : H} : runFn P F ⟨np,ns,.cons (.expr .bad) r⟩ vs h = none := by
  by_cases e : vs.length = np
  · exact if_pos e
  · exact if_neg e
theorem call0_none (P : Par) : ∀ (n : Nat) (vs : List V) (h : H),callN P fnT n 0 vs h = none
  | 0,_,_ => rfl
  | n + 1,vs,h => by
    by_cases hn : 0 = n
    · subst hn
      obtain ⟨np,ns,r,e⟩ := init0
      exact (if_pos rfl).trans (bq_mk e run_bad)
    · exact (if_neg hn).trans (call0_none P n vs h)
theorem boot_len (k : Nat) (x : Str) (h : idxOf? x bis = some k) : bootBuiltins x = some (biFn k) ∧ x ≠ "__name__" := by
  have hx := idxOf_get x h
  have hk : k < 5 := idx_lt h
  have key : ∀ k < 5,(bis[k]?).bind bootBuiltins = some (biFn k) ∧ bis[k]? ≠ some ("__name__" : Str) := by decide +kernel
  obtain ⟨a,b⟩ := key k hk
  rw [hx] at a b
  exact ⟨a,fun q => b (by rw [q])⟩
theorem boot_range : bootBuiltins "range" = some (.type "range") ∧ (("range" : Str) ≠ "__name__") := by decide +kernel
theorem tp0 {w : World} {h₀ : Heap} (x : Fx h₀) (lim : h₀.NoLimit) {mb : Str → Option Value} (hb : h₀.Ns builtinsNs mb) (hbb : ∀ x : Str,x ≠ "__name__" → mb x = bootBuiltins x) {sa : Nat} {zs : List Int}
    (hs : ∃ ob,h₀.get? sa = some ob ∧ OR G0 [] (.lst (zs.map .int)) ob) : ∃ W K,W.fa 78 = 672 ∧ W.gl = mainGlobals ∧ Tp pw_nt0453_01 w G0 (P0 sa zs) W h₀ K := by
  obtain ⟨mg,g1,g2,g3,g4,g5,g6,g7⟩ := x.mg
  obtain ⟨K,k1,k2⟩ := x.kls
  refine ⟨⟨mainGlobals,builtinsNs,mg,mb,fa0⟩,K,rfl,rfl,?_⟩
  refine ⟨fun a o e => ?_,g1,hb,fun y k h => g4 y k (constIn_mem h),fun y k h => ⟨_,g5 y k (idxOf_get y h),rfl⟩,fun y i h h5 => ⟨g2 y i (idxOf_get y h) h5,?_⟩,fun y c h => g3 y c (idxOf_get y h),
    fun y k h => ⟨g6 y (List.mem_of_getElem? (idxOf_get y h)),?_⟩,⟨g7,?_⟩,fun y k h => an_get h,fun y c h => ?_,lim,⟨k1,k2,an_inj⟩,fun f d h => x.fns f d h _ rfl rfl⟩
  · show ∃ ob,h₀.get? a = some ob ∧ _
    have e : (match con0 a with | some o => some o | none => if a = sa then some (O.lst (zs.map .int)) else none) = some o := e
    cases hc : con0 a with
    | some o' => rw [hc] at e; cases e; exact x.con a o (con_mem hc)
    | none =>
      rw [hc] at e
      by_cases q : a = sa
      · dsimp only at e; rw [if_pos q] at e; cases e; rw [q]; exact hs
      · dsimp only at e; rw [if_neg q] at e; exact nn e
  · have := (List.getElem?_eq_some_iff.mp (idxOf_get y h)).1
    rw [fns_len] at this; exact this
  · obtain ⟨p,q⟩ := boot_len k y h; exact (hbb y q).trans p
  · exact (hbb _ boot_range.2).trans boot_range.1
  · have hc : c < 5 := idx_lt h
    rcases (show c = 0 ∨ c = 1 ∨ c = 2 ∨ c = 3 ∨ c = 4 by (first | lia | omega)) with rfl | rfl | rfl | rfl | rfl
    · exact .inr fun n vs h => call0_none _ n vs h
    all_goals exact .inl rfl
theorem room0 : Room 79 callerA := ⟨rfl,by decide,by decide⟩
set_option tactic.hygienic true in
theorem lay_ints {R : WRecords} {cl : Str → Option Addr} {P : Params} {ord : List DictEntry → List DictEntry} : ∀ {zs : List Int} {s s' : Shared} {ws : List Value},layAllW R cl P ord (zs.map .int) s = some (ws,s') → s'.heap = s.heap ∧ LR [] (zs.map V.int) ws
  | [],s,s',ws,h => by cases h; exact ⟨rfl,.nil⟩
  | i :: r,s,s',ws,h => by
    rw [List.map_cons,layAllW,layW] at h
    dsimp only at h
    split at h
    · rename_i p hp
      obtain ⟨us,s2⟩ := p
      cases h
      obtain ⟨a,b⟩ := lay_ints hp
      exact ⟨a,.cons ⟨_,rfl⟩ b⟩
    · cases h
theorem ints_of {R : WRecords} : ∀ {xs : List WData},(∀ x ∈ xs,WShape.has R x .int = true) → ∃ zs : List Int,xs = zs.map .int
  | [],_ => ⟨[],rfl⟩
  | x :: r,h => by
    obtain ⟨l,rfl⟩ := ints_of fun y hy => h y (List.mem_cons_of_mem _ hy)
    obtain ⟨i,rfl⟩ := hasW_int (h x List.mem_cons_self)
    exact ⟨i :: l,rfl⟩
theorem args_of {args : List WData} (h : WShape.hasAll [] args [.list .int] = true) : ∃ zs : List Int,args = [.list (zs.map .int)] := by
  obtain ⟨d,r,rfl,a,b⟩ := hasAllW_cons h
  rw [hasAllW_nil b]
  obtain ⟨xs,rfl,c⟩ := hasW_list a
  obtain ⟨l,rfl⟩ := ints_of (R := []) (xs := xs) (hasItemsW_at c)
  exact ⟨l,rfl⟩
theorem pre_val (xs : List WData) : rw_nt0453_01.row.pre.value [] { args := [.list xs] } = (match some (PySem.W.WData.bool (!decide ((63 : Int) < xs.length))) with
    | some (.bool false) => some (.bool false)
    | some (.bool true) => some (.bool true)
    | _ => none) := by rfl
theorem pre_lenH {xs : List WData} (h : rw_nt0453_01.row.pre.holds [] { args := [.list xs] } = true) : xs.length ≤ 63 := by
  unfold WTm.holds at h
  rw [pre_val] at h
  by_cases q : (63 : Int) < xs.length
  · rw [decide_eq_true q] at h; exact ff h
  · (first | lia | omega)
theorem promised0 : rw_nt0453_01.row.toRowW.promised := ⟨[.list []],by decide +kernel,by decide +kernel⟩
set_option maxHeartbeats 4000000 in
theorem said1 : PySem.W.Fast.tw9446332074065402090 rw_nt0453_01 = true := by
  delta PySem.W.Fast.tw9446332074065402090
  repeat' (with_reducible refine look_both ?_ ?_)
  all_goals try delta PySem.W.Fast.tw17960256430627541270
  repeat' (with_reducible refine look_both ?_ ?_)
  all_goals try delta PySem.W.Fast.tw2436336058641802641
  repeat' (with_reducible refine look_both ?_ ?_)
  all_goals try delta PySem.W.Fast.tw12908688711261696721
  repeat' (with_reducible refine look_both ?_ ?_)
  all_goals as_aux_lemma => kernel_rfl
theorem said0 : rw_nt0453_01.wellSaid = true := by rw [PySem.W.Fast.te9446332074065402090]; exact said1
theorem parts0 : (chainsOk q0 && opensWell rw_nt0453_01.row.prog && (frees rw_nt0453_01.row.toRowW && rw_nt0453_01.row.within.isEmpty)) = true := by decide +kernel
theorem bare0 : rw_nt0453_01.row.prog.bare := ⟨rfl,rfl,rfl,rfl,rfl,by decide +kernel⟩
theorem pin0 : ∃ d kwd,defOf q0 rw_nt0453_01.row.name = some (d,kwd) ∧ rw_nt0453_01.row.prog.theDef rw_nt0453_01.row.name = some (d.params,d.body,d.scope) ∧ kwWritten? d.params.kwonlyargs d.params.kw_defaults = some kwd :=
  ⟨_,_,rfl,rfl,rfl⟩
theorem walk0 (LT : LawTrue) {w : World} {s₀ s₁ : Shared} {args : List WData} {vs : List Value} {as : List Addr} (hpre : rw_nt0453_01.row.toRowW.claim.pre args = true) (L : Laid [] w s₀ s₁ args vs as) (x : Fx s₁.heap) (lim : s₁.heap.NoLimit)
    {mb : Str → Option Value} (hb : s₁.heap.Ns builtinsNs mb) (hbb : ∀ x : Str,x ≠ "__name__" → mb x = bootBuiltins x) :
    wpAny (model pw_nt0453_01 w) callerA (PySem.call (.ref 672) vs) (fun v s' => GoodWG rw_nt0453_01.row.toRowW.claim (classAt s₀.heap) (ExcName.means s₀.heap) args s₁ (.ok (.ret v)) s')
      (fun e s' => GoodWG rw_nt0453_01.row.toRowW.claim (classAt s₀.heap) (ExcName.means s₀.heap) args s₁ (.error e) s') s₁ := by
  obtain ⟨hsh,hcond⟩ := pre_splitW hpre
  obtain ⟨zs,rfl⟩ := args_of hsh
  have hlen : zs.length ≤ 63 := by have := pre_lenH hcond; simpa using this
  obtain ⟨ord,_,hlaid⟩ := L.laid
  rw [layAllW,layW] at hlaid
  cases hx : layAllW [] (classAt s₀.heap) w.params ord (zs.map .int) s₀ with
  | none => rw [hx] at hlaid; cases hlaid
  | some r =>
    rw [hx] at hlaid
    simp only [layAllW,Option.some.injEq,Prod.mk.injEq] at hlaid
    obtain ⟨rfl,rfl⟩ := hlaid
    obtain ⟨hh,hl⟩ := lay_ints hx
    have ho := Heap.get?_push_size r.2.heap (o := { cls := .type "list",data := .seq r.1.toArray }) rfl
    obtain ⟨W,K,hW,hgl,T⟩ := tp0 (w := w) x lim hb hbb (sa := r.2.heap.objs.size) (zs := zs) ⟨_,ho,r.1,_,rfl,hl⟩
    have hsa : 673 ≤ r.2.heap.objs.size := by
      have hd : 78 < fdList.length := by decide +kernel
      obtain ⟨fd,f⟩ := T.fns 78 _ (List.getElem?_eq_getElem hd)
      obtain ⟨o,ho2,hd2⟩ := f.obj
      rw [hW] at ho2
      have h1 : 672 < (r.2.heap.push { cls := .type "list",data := .seq r.1.toArray }).objs.size := Heap.lt_size ho2
      rw [Heap.size_push] at h1
      refine Nat.lt_of_le_of_ne (by (first | lia | omega)) fun q => ?_
      rw [q,ho] at ho2
      cases ho2
      cases hd2
    obtain ⟨h',hrun⟩ := LT r.2.heap.objs.size zs hsa hlen
    have key := callN_sound T 79 callerA room0 78 _ [] _ h' hrun [] _ [.ref r.2.heap.objs.size] ⟨fun b o e => e,rfl,List.nodup_nil,fun b hb => (by cases hb),fun k o b a => (by cases a)⟩ (.one rfl)
      (fun res s' => ∃ v',res = .ok (.ret v') ∧ Pv G0 _ [] _ h' (.bool true) v' s') fun v' s' p => ⟨v',rfl,p⟩
    rw [hW] at key
    refine wpAny_call (codeAny_mono key fun res s' ⟨v',hr,p⟩ => ?_)
    subst hr
    obtain ⟨I',X,R,hv⟩ := p
    cases hv
    obtain ⟨hp,tk,rfl⟩ := X.same
    refine GoodW.toG ⟨.inl ⟨_,.bool true,[],rfl,fun _ => rfl,.bool true,?_,fun _ => ⟨List.nodup_nil,fun _ h => by cases h⟩⟩,R.stays,rfl,L.gens⟩
    wrow_post
theorem holds_of (LT : LawTrue) : rw_nt0453_01.Holds := by
  obtain ⟨d,kwd,hdef,hp,hk⟩ := pin0
  refine holds_law said0 fun said => ⟨said,promised0,?_⟩
  refine open_anyG (r := rw_nt0453_01.row.toRowW) (run := fun f vs => PySem.call f vs) (tree := fun vs => do match ← nsGet mainNs rw_nt0453_01.row.name with
      | some f => do ret (← PySem.call f vs)
      | none => unsupported "claim.caller:no-such-global") (YP := fun _ h => Fx h) (XP := fun _ _ => True) left0 (fun w s e => yf_of e) (fun w h h' x k => x.keeps k) (fun _ _ => trivial) (fun _ _ _ _ _ => trivial)
    (fun s _ => recFacts_nil rfl) rfl parts0 bare0 promised0
    (fun vs w s mg f Q E hg hf h => wpAny_bind (wpAny_nsGet hg (by rw [hf]; exact wpAny_bind (wpAny_mono h (fun _ _ x => wpAny_pure x) fun _ _ x => x))))
    (fun w s hg G n hn => ?_) fun w s₀ s₁ mg mb G Y args vs as hpre hlay L low => ?_
  · obtain rfl : n = rw_nt0453_01.row.name := by split at hn <;> simp_all
    exact pinned_of_view hg G hdef hp hk
  · refine ⟨.ref 672,?_,walk0 LT hpre L Y G.T.nolimit G.T.b G.T.builtins⟩
    obtain ⟨mg',g1,g2,_⟩ := Y.mg
    have e : gx.fns[78]? = some rw_nt0453_01.row.name := by decide +kernel
    have h78 := g2 _ 78 e (by decide)
    obtain ⟨o,es,ep,p1,p2,p3,p4⟩ := G.T.g
    obtain ⟨o',es',ep',q1,q2,q3,q4⟩ := g1
    rw [p1] at q1; cases q1
    rw [p2] at q2; cases q2
    rw [← p4,q4]; exact h78
end Mine
namespace Mine
open PySem
theorem callN_eq (P : Par) (T : Nat → Option FnM) (args : List V) (h : H) (f : Nat) : ∀ n,f < n → callN P T n f args h = (T f).elim none fun m => runFn P (callN P T f) m args h
  | 0,e => absurd e (Nat.not_lt_zero _)
  | n + 1,e => by
    by_cases q : f = n
    · subst q; exact (if_pos rfl).trans (by cases T f <;> rfl)
    · exact (if_neg q).trans (callN_eq P T args h f n (Nat.lt_of_le_of_ne (Nat.le_of_lt_succ e) q))
theorem callN_of {P : Par} {f n : Nat} {m : Option FnM} (args : List V) (h : H) (e : fnT f = m) (hn : f < n) : callN P fnT n f args h = m.elim none fun m => runFn P (callN P fnT f) m args h := by
  rw [callN_eq P fnT args h f n hn,e]
noncomputable def m1 : {m : Option FnM // fnT 1 = m} := by
  refine ⟨?b,?h⟩
  case h => conv => lhs; reduce
noncomputable def m2 : {m : Option FnM // fnT 2 = m} := by
  refine ⟨?b,?h⟩
  case h => conv => lhs; reduce
noncomputable def m3 : {m : Option FnM // fnT 3 = m} := by
  refine ⟨?b,?h⟩
  case h => conv => lhs; reduce
noncomputable def m4 : {m : Option FnM // fnT 4 = m} := by
  refine ⟨?b,?h⟩
  case h => conv => lhs; reduce
noncomputable def m5 : {m : Option FnM // fnT 5 = m} := by
  refine ⟨?b,?h⟩
  case h => conv => lhs; reduce
noncomputable def m6 : {m : Option FnM // fnT 6 = m} := by
  refine ⟨?b,?h⟩
  case h => conv => lhs; reduce
noncomputable def m7 : {m : Option FnM // fnT 7 = m} := by
  refine ⟨?b,?h⟩
  case h => conv => lhs; reduce
noncomputable def m8 : {m : Option FnM // fnT 8 = m} := by
  refine ⟨?b,?h⟩
  case h => conv => lhs; reduce
noncomputable def m9 : {m : Option FnM // fnT 9 = m} := by
  refine ⟨?b,?h⟩
  case h => conv => lhs; reduce
noncomputable def m10 : {m : Option FnM // fnT 10 = m} := by
  refine ⟨?b,?h⟩
  case h => conv => lhs; reduce
noncomputable def m11 : {m : Option FnM // fnT 11 = m} := by
  refine ⟨?b,?h⟩
  case h => conv => lhs; reduce
noncomputable def m12 : {m : Option FnM // fnT 12 = m} := by
  refine ⟨?b,?h⟩
  case h => conv => lhs; reduce
noncomputable def m13 : {m : Option FnM // fnT 13 = m} := by
  refine ⟨?b,?h⟩
  case h => conv => lhs; reduce
noncomputable def m14 : {m : Option FnM // fnT 14 = m} := by
  refine ⟨?b,?h⟩
  case h => conv => lhs; reduce
noncomputable def m15 : {m : Option FnM // fnT 15 = m} := by
  refine ⟨?b,?h⟩
  case h => conv => lhs; reduce
noncomputable def m16 : {m : Option FnM // fnT 16 = m} := by
  refine ⟨?b,?h⟩
  case h => conv => lhs; reduce
noncomputable def m17 : {m : Option FnM // fnT 17 = m} := by
  refine ⟨?b,?h⟩
  case h => conv => lhs; reduce
noncomputable def m18 : {m : Option FnM // fnT 18 = m} := by
  refine ⟨?b,?h⟩
  case h => conv => lhs; reduce
noncomputable def m19 : {m : Option FnM // fnT 19 = m} := by
  refine ⟨?b,?h⟩
  case h => conv => lhs; reduce
noncomputable def m20 : {m : Option FnM // fnT 20 = m} := by
  refine ⟨?b,?h⟩
  case h => conv => lhs; reduce
noncomputable def m21 : {m : Option FnM // fnT 21 = m} := by
  refine ⟨?b,?h⟩
  case h => conv => lhs; reduce
noncomputable def m22 : {m : Option FnM // fnT 22 = m} := by
  refine ⟨?b,?h⟩
  case h => conv => lhs; reduce
noncomputable def m23 : {m : Option FnM // fnT 23 = m} := by
  refine ⟨?b,?h⟩
  case h => conv => lhs; reduce
noncomputable def m24 : {m : Option FnM // fnT 24 = m} := by
  refine ⟨?b,?h⟩
  case h => conv => lhs; reduce
noncomputable def m25 : {m : Option FnM // fnT 25 = m} := by
  refine ⟨?b,?h⟩
  case h => conv => lhs; reduce
noncomputable def m26 : {m : Option FnM // fnT 26 = m} := by
  refine ⟨?b,?h⟩
  case h => conv => lhs; reduce
noncomputable def m27 : {m : Option FnM // fnT 27 = m} := by
  refine ⟨?b,?h⟩
  case h => conv => lhs; reduce
noncomputable def m28 : {m : Option FnM // fnT 28 = m} := by
  refine ⟨?b,?h⟩
  case h => conv => lhs; reduce
noncomputable def m29 : {m : Option FnM // fnT 29 = m} := by
  refine ⟨?b,?h⟩
  case h => conv => lhs; reduce
noncomputable def m30 : {m : Option FnM // fnT 30 = m} := by
  refine ⟨?b,?h⟩
  case h => conv => lhs; reduce
noncomputable def m31 : {m : Option FnM // fnT 31 = m} := by
  refine ⟨?b,?h⟩
  case h => conv => lhs; reduce
noncomputable def m32 : {m : Option FnM // fnT 32 = m} := by
  refine ⟨?b,?h⟩
  case h => conv => lhs; reduce
noncomputable def m33 : {m : Option FnM // fnT 33 = m} := by
  refine ⟨?b,?h⟩
  case h => conv => lhs; reduce
noncomputable def m34 : {m : Option FnM // fnT 34 = m} := by
  refine ⟨?b,?h⟩
  case h => conv => lhs; reduce
noncomputable def m35 : {m : Option FnM // fnT 35 = m} := by
  refine ⟨?b,?h⟩
  case h => conv => lhs; reduce
noncomputable def m36 : {m : Option FnM // fnT 36 = m} := by
  refine ⟨?b,?h⟩
  case h => conv => lhs; reduce
noncomputable def m37 : {m : Option FnM // fnT 37 = m} := by
  refine ⟨?b,?h⟩
  case h => conv => lhs; reduce
noncomputable def m38 : {m : Option FnM // fnT 38 = m} := by
  refine ⟨?b,?h⟩
  case h => conv => lhs; reduce
noncomputable def m39 : {m : Option FnM // fnT 39 = m} := by
  refine ⟨?b,?h⟩
  case h => conv => lhs; reduce
noncomputable def m40 : {m : Option FnM // fnT 40 = m} := by
  refine ⟨?b,?h⟩
  case h => conv => lhs; reduce
noncomputable def m41 : {m : Option FnM // fnT 41 = m} := by
  refine ⟨?b,?h⟩
  case h => conv => lhs; reduce
noncomputable def m42 : {m : Option FnM // fnT 42 = m} := by
  refine ⟨?b,?h⟩
  case h => conv => lhs; reduce
noncomputable def m43 : {m : Option FnM // fnT 43 = m} := by
  refine ⟨?b,?h⟩
  case h => conv => lhs; reduce
noncomputable def m44 : {m : Option FnM // fnT 44 = m} := by
  refine ⟨?b,?h⟩
  case h => conv => lhs; reduce
noncomputable def m45 : {m : Option FnM // fnT 45 = m} := by
  refine ⟨?b,?h⟩
  case h => conv => lhs; reduce
noncomputable def m46 : {m : Option FnM // fnT 46 = m} := by
  refine ⟨?b,?h⟩
  case h => conv => lhs; reduce
noncomputable def m47 : {m : Option FnM // fnT 47 = m} := by
  refine ⟨?b,?h⟩
  case h => conv => lhs; reduce
noncomputable def m48 : {m : Option FnM // fnT 48 = m} := by
  refine ⟨?b,?h⟩
  case h => conv => lhs; reduce
noncomputable def m49 : {m : Option FnM // fnT 49 = m} := by
  refine ⟨?b,?h⟩
  case h => conv => lhs; reduce
noncomputable def m50 : {m : Option FnM // fnT 50 = m} := by
  refine ⟨?b,?h⟩
  case h => conv => lhs; reduce
noncomputable def m51 : {m : Option FnM // fnT 51 = m} := by
  refine ⟨?b,?h⟩
  case h => conv => lhs; reduce
noncomputable def m52 : {m : Option FnM // fnT 52 = m} := by
  refine ⟨?b,?h⟩
  case h => conv => lhs; reduce
noncomputable def m53 : {m : Option FnM // fnT 53 = m} := by
  refine ⟨?b,?h⟩
  case h => conv => lhs; reduce
noncomputable def m54 : {m : Option FnM // fnT 54 = m} := by
  refine ⟨?b,?h⟩
  case h => conv => lhs; reduce
noncomputable def m55 : {m : Option FnM // fnT 55 = m} := by
  refine ⟨?b,?h⟩
  case h => conv => lhs; reduce
noncomputable def m56 : {m : Option FnM // fnT 56 = m} := by
  refine ⟨?b,?h⟩
  case h => conv => lhs; reduce
noncomputable def m57 : {m : Option FnM // fnT 57 = m} := by
  refine ⟨?b,?h⟩
  case h => conv => lhs; reduce
noncomputable def m58 : {m : Option FnM // fnT 58 = m} := by
  refine ⟨?b,?h⟩
  case h => conv => lhs; reduce
noncomputable def m59 : {m : Option FnM // fnT 59 = m} := by
  refine ⟨?b,?h⟩
  case h => conv => lhs; reduce
noncomputable def m60 : {m : Option FnM // fnT 60 = m} := by
  refine ⟨?b,?h⟩
  case h => conv => lhs; reduce
noncomputable def m61 : {m : Option FnM // fnT 61 = m} := by
  refine ⟨?b,?h⟩
  case h => conv => lhs; reduce
noncomputable def m62 : {m : Option FnM // fnT 62 = m} := by
  refine ⟨?b,?h⟩
  case h => conv => lhs; reduce
noncomputable def m63 : {m : Option FnM // fnT 63 = m} := by
  refine ⟨?b,?h⟩
  case h => conv => lhs; reduce
noncomputable def m64 : {m : Option FnM // fnT 64 = m} := by
  refine ⟨?b,?h⟩
  case h => conv => lhs; reduce
noncomputable def m65 : {m : Option FnM // fnT 65 = m} := by
  refine ⟨?b,?h⟩
  case h => conv => lhs; reduce
noncomputable def m66 : {m : Option FnM // fnT 66 = m} := by
  refine ⟨?b,?h⟩
  case h => conv => lhs; reduce
noncomputable def m67 : {m : Option FnM // fnT 67 = m} := by
  refine ⟨?b,?h⟩
  case h => conv => lhs; reduce
noncomputable def m68 : {m : Option FnM // fnT 68 = m} := by
  refine ⟨?b,?h⟩
  case h => conv => lhs; reduce
noncomputable def m69 : {m : Option FnM // fnT 69 = m} := by
  refine ⟨?b,?h⟩
  case h => conv => lhs; reduce
noncomputable def m70 : {m : Option FnM // fnT 70 = m} := by
  refine ⟨?b,?h⟩
  case h => conv => lhs; reduce
noncomputable def m71 : {m : Option FnM // fnT 71 = m} := by
  refine ⟨?b,?h⟩
  case h => conv => lhs; reduce
noncomputable def m72 : {m : Option FnM // fnT 72 = m} := by
  refine ⟨?b,?h⟩
  case h => conv => lhs; reduce
noncomputable def m73 : {m : Option FnM // fnT 73 = m} := by
  refine ⟨?b,?h⟩
  case h => conv => lhs; reduce
noncomputable def m74 : {m : Option FnM // fnT 74 = m} := by
  refine ⟨?b,?h⟩
  case h => conv => lhs; reduce
noncomputable def m75 : {m : Option FnM // fnT 75 = m} := by
  refine ⟨?b,?h⟩
  case h => conv => lhs; reduce
noncomputable def m76 : {m : Option FnM // fnT 76 = m} := by
  refine ⟨?b,?h⟩
  case h => conv => lhs; reduce
noncomputable def m77 : {m : Option FnM // fnT 77 = m} := by
  refine ⟨?b,?h⟩
  case h => conv => lhs; reduce
noncomputable def m78 : {m : Option FnM // fnT 78 = m} := by
  refine ⟨?b,?h⟩
  case h => conv => lhs; reduce
noncomputable def Meets (P : Par) (n f : Nat) (args : List V) (h : H) (Q : V → H → Prop) : Prop := ∃ v h',callN P fnT n f args h = some (v,h') ∧ Q v h'
noncomputable def kFn (Q : V → H → Prop) : KS := fun fl _ h' => match fl with
  | .ret v => Q v h'
  | .next => Q .none h'
  | _ => False
noncomputable def wFn (P : Par) (F : Call) (m : Option FnM) (args : List V) (h : H) (Q : V → H → Prop) : Prop := match m with
  | some m => Nat.beq args.length m.np = true ∧ wSs P F m.body (args.map some ++ List.replicate (m.ns - m.np) none) h (kFn Q)
  | none => False
theorem call_wp {P : Par} {n f : Nat} {args : List V} {h : H} {Q : V → H → Prop} (m : {m : Option FnM // fnT f = m}) (hn : f < n) (w : wFn P (callN P fnT f) m.val args h Q) : Meets P n f args h Q := by
  obtain ⟨m,hm⟩ := m
  cases m with
  | none => exact w.elim
  | some m =>
    obtain ⟨hl,w⟩ := w
    obtain ⟨fl,σ',h',e,q⟩ := wSs_sound _ w
    have key := callN_of (P := P) args h hm hn
    have hl := Nat.eq_of_beq_eq_true hl
    cases fl with
    | ret v => exact ⟨v,h',key.trans ((if_pos hl).trans (rF_mk e rfl)),q⟩
    | next => exact ⟨.none,h',key.trans ((if_pos hl).trans (rF_mk e rfl)),q⟩
    | _ => exact q.elim
theorem get_pre {B h : H} (p : B <+: h) {a : Nat} {o : O} (e : B[a]? = some o) : h[a]? = some o := by
  obtain ⟨t,rfl⟩ := p
  rw [List.getElem?_append_left (List.getElem?_eq_some_iff.mp e).1,e]
theorem obj_pre {C : Nat → Option O} {B h : H} (p : B <+: h) {v : V} {o : O} (e : objOf C B v = some o) : objOf C h v = some o := by
  cases v <;> first | exact get_pre p e | exact e
theorem attr_pre {B h : H} (p : B <+: h) {v : V} {k : Nat} {x : V} (e : getAttr B v k = some x) : getAttr h v k = some x := by
  obtain ⟨a,rfl,e⟩ := bA_inv e
  obtain ⟨c,d,e1,e⟩ := bC_inv e
  obtain ⟨fs,e2,e⟩ := bD_inv e
  exact bC_mk (c := c) (get_pre p e1) (bD_mk (get_pre p e2) e)
theorem pre_set {B h : H} (p : B <+: h) {a : Nat} (ha : B.length ≤ a) (o : O) : B <+: h.set a o := by
  obtain ⟨t,rfl⟩ := p
  rw [List.set_append,if_neg (by (first | lia | omega))]
  exact List.prefix_append _ _
theorem pre_app {B h : H} (p : B <+: h) (g : H) : B <+: h ++ g := p.trans (List.prefix_append _ _)
theorem pre_len {B h : H} (p : B <+: h) : B.length ≤ h.length := p.length_le
noncomputable def kRnd (J : Sig → H → Prop) (R : KS) : KS := fun fl σ h => match fl with
  | .next | .cont => J σ h
  | .brk => R .next σ h
  | .ret v => R (.ret v) σ h
inductive LtQ (n : Nat) (J : Nat → Sig → H → Prop) (σ : Sig) (h : H) : Prop
  | mk (m : Nat) (e : m < n) (q : J m σ h) : LtQ n J σ h
theorem LoopQ.of {X : Option (Fl × Sig × H)} {R : Fl → Sig → H → Prop} (e : ∃ fl σ' h',X = some (fl,σ',h') ∧ R fl σ' h') : LoopQ X R := let ⟨fl,σ',h',a,b⟩ := e; ⟨fl,σ',h',a,b⟩
theorem forL_J {g : V → Sig → H → Option (Fl × Sig × H)} {ok : H → Bool} (J : List V → Sig → H → Prop) (R : Fl → Sig → H → Prop)
    (step : ∀ x xs σ h,J (x :: xs) σ h → ok h = true ∧ ∃ fl σ' h',g x σ h = some (fl,σ',h') ∧ kRnd (J xs) R fl σ' h') (fin : ∀ σ h,J [] σ h → ok h = true ∧ R .next σ h) :
    ∀ (xs : List V) (σ : Sig) (h : H),J xs σ h → ∃ fl σ' h',forL g ok xs σ h = some (fl,σ',h') ∧ R fl σ' h'
  | [],σ,h,j => ⟨.next,σ,h,if_pos (fin σ h j).1,(fin σ h j).2⟩
  | x :: xs,σ,h,j => by
    obtain ⟨hok,fl,σ1,h1,e,q⟩ := step x xs σ h j
    cases fl with
    | next => obtain ⟨fl,σ',h',e2,q⟩ := forL_J J R step fin xs σ1 h1 q; exact ⟨fl,σ',h',(if_pos hok).trans (nxt_mk e e2),q⟩
    | cont => obtain ⟨fl,σ',h',e2,q⟩ := forL_J J R step fin xs σ1 h1 q; exact ⟨fl,σ',h',(if_pos hok).trans (nxt_mk e e2),q⟩
    | brk => exact ⟨_,_,_,(if_pos hok).trans (nxt_mk e rfl),q⟩
    | ret v => exact ⟨_,_,_,(if_pos hok).trans (nxt_mk e rfl),q⟩
theorem for_wp {P : Par} {F : Call} {i : Nat} {b : MSs} {ok : H → Bool} (J : List V → Sig → H → Prop) (R : Fl → Sig → H → Prop)
    (step : ∀ x xs σ h,J (x :: xs) σ h → ok h = true ∧ i < σ.length ∧ wSs P F b (σ.set i (some x)) h (kRnd (J xs) R)) (fin : ∀ σ h,J [] σ h → ok h = true ∧ R .next σ h)
    {xs : List V} {σ : Sig} {h : H} (j : J xs σ h) : LoopQ (forL (fun x σ h => if i < σ.length then exs P F b (σ.set i (some x)) h else none) ok xs σ h) R :=
  LoopQ.of <| forL_J J R (fun x xs σ h j => by
    obtain ⟨a,c,w⟩ := step x xs σ h j
    obtain ⟨fl,σ',h',e,q⟩ := wSs_sound _ w
    exact ⟨a,fl,σ',h',(if_pos c).trans e,q⟩) fin xs σ h j
theorem while_wp {P : Par} {F : Call} {t : ME} {b : MSs} (J : Nat → Sig → H → Prop) (R : Fl → Sig → H → Prop)
    (step : ∀ n σ h,J n σ h → wE P F t σ h fun x h1 => wTruth P h1 x (n ≠ 0 ∧ wSs P F b σ h1 (kRnd (LtQ n J) R)) (R .next σ h1))
    (N : Nat) {n : Nat} (hn : n < N) {σ : Sig} {h : H} (j : J n σ h) : LoopQ (whileL (fun σ h => bo (ev P F t σ h) fun x h1 => bq (truthy P.C h1 x) fun b => some (b,h1)) (fun σ h => exs P F b σ h) N σ h) R := by
  apply LoopQ.of
  induction N generalizing n σ h with
  | zero => exact absurd hn (Nat.not_lt_zero _)
  | succ N ih =>
    obtain ⟨x,h1,e1,w⟩ := wE_sound t (step n σ h j)
    obtain ⟨c,e2,w1,w2⟩ := wTruth_sound w
    have et : (bo (ev P F t σ h) fun x h1 => bq (truthy P.C h1 x) fun b => some (b,h1)) = some (c,h1) := bo_mk e1 (bq_mk e2 rfl)
    cases c with
    | false => exact ⟨_,_,_,bo_mk et rfl,w2 rfl⟩
    | true =>
      obtain ⟨h0,w⟩ := w1 rfl
      obtain ⟨fl,σ',h',e3,q⟩ := wSs_sound _ w
      cases fl with
      | next => obtain ⟨m,hm,q⟩ := q; obtain ⟨fl,σ',h',e4,q⟩ := ih (Nat.lt_of_lt_of_le hm (Nat.le_of_lt_succ hn)) q; exact ⟨_,_,_,bo_mk et (nxt_mk e3 e4),q⟩
      | cont => obtain ⟨m,hm,q⟩ := q; obtain ⟨fl,σ',h',e4,q⟩ := ih (Nat.lt_of_lt_of_le hm (Nat.le_of_lt_succ hn)) q; exact ⟨_,_,_,bo_mk et (nxt_mk e3 e4),q⟩
      | brk => exact ⟨_,_,_,bo_mk et (nxt_mk e3 rfl),q⟩
      | ret v => exact ⟨_,_,_,bo_mk et (nxt_mk e3 rfl),q⟩
theorem compL_J {f : V → H → Option (Option V × H)} {ok : H → Bool} (J : List V → H → Prop) (r : V → Option V)
    (step : ∀ x xs h,J (x :: xs) h → ok h = true ∧ ∃ h',f x h = some (r x,h') ∧ J xs h') (fin : ∀ h,J [] h → ok h = true) :
    ∀ (xs : List V) (h : H),J xs h → ∃ h',compL f ok xs h = some (xs.filterMap r,h') ∧ J [] h'
  | [],h,j => ⟨h,if_pos (fin h j),j⟩
  | x :: xs,h,j => by
    obtain ⟨hok,h1,e,q⟩ := step x xs h j
    obtain ⟨h2,e2,q2⟩ := compL_J J r step fin xs h1 q
    refine ⟨h2,(if_pos hok).trans (bo_mk e (bo_mk e2 ?_)),q2⟩
    rw [List.filterMap_cons]
    cases r x <;> rfl
theorem comp_wp {P : Par} {F : Call} {elt : ME} {ifs : MEs} {ok : H → Bool} {σ : Sig} (J : List V → H → Prop) (r : V → Option V)
    (step : ∀ x xs h,J (x :: xs) h → ok h = true ∧ wT P F ifs (some x :: σ) h fun b h1 => (b = true → wE P F elt (some x :: σ) h1 fun v h2 => r x = some v ∧ J xs h2) ∧ (b = false → r x = none ∧ J xs h1)) (fin : ∀ h,J [] h → ok h = true)
    {xs : List V} {h : H} (j : J xs h) : ∃ h',compL (compG (fun x h => evT P F ifs (some x :: σ) h) (fun x h => ev P F elt (some x :: σ) h)) ok xs h = some (xs.filterMap r,h') ∧ J [] h' :=
  compL_J J r (fun x xs h j => by
    obtain ⟨a,w⟩ := step x xs h j
    obtain ⟨b,h1,e1,w1,w2⟩ := wT_sound ifs w
    cases b with
    | true =>
      obtain ⟨v,h2,e2,e3,q⟩ := wE_sound elt (w1 rfl)
      exact ⟨a,h2,bo_mk e1 (bo_mk e2 (by rw [e3])),q⟩
    | false => obtain ⟨e3,q⟩ := w2 rfl; exact ⟨a,h1,bo_mk e1 (by rw [e3]; rfl),q⟩) fin xs h j
noncomputable def IntL (C : Nat → Option O) (h : H) (v : V) (l : List Int) : Prop := objOf C h v = some (.lst (l.map .int))
theorem IntL.mono {C : Nat → Option O} {B h : H} {v : V} {l : List Int} (p : B <+: h) (x : IntL C B v l) : IntL C h v l := obj_pre p x
theorem sub_lst {C : Nat → Option O} {h : H} {v : V} {xs : List V} (x : objOf C h v = some (.lst xs)) {i : Int} (h0 : 0 ≤ i) (h1 : i ≤ 1000000) {r : V} (hr : xs[i.toNat]? = some r) : getSub C h v (.int i) = some r := by
  exact bS_l x ((if_pos (by rw [decide_eq_true h0,decide_eq_true h1]; rfl)).trans hr)
theorem sub_tup {C : Nat → Option O} {h : H} {v : V} {xs : List V} (x : objOf C h v = some (.tup xs)) {i : Int} (h0 : 0 ≤ i) (h1 : i ≤ 1000000) {r : V} (hr : xs[i.toNat]? = some r) : getSub C h v (.int i) = some r := by
  exact bS_t x ((if_pos (by rw [decide_eq_true h0,decide_eq_true h1]; rfl)).trans hr)
theorem IntL.sub {C : Nat → Option O} {h : H} {v : V} {l : List Int} (x : IntL C h v l) {i : Int} (h0 : 0 ≤ i) (h1 : i ≤ 1000000) {r : Int} (hr : l[i.toNat]? = some r) : getSub C h v (.int i) = some (.int r) :=
  sub_lst x h0 h1 (by rw [List.getElem?_map,hr]; rfl)
structure MapAt (C : Nat → Option O) (h : H) (m : V) (by_ : List Int) (tw sh : Int) : Prop where
  byl : ∃ b,getAttr h m 25 = some b ∧ IntL C h b by_
  len : by_.length = 7
  tw : getAttr h m 26 = some (.int tw)
  sh : getAttr h m 28 = some (.int sh)
theorem t47 {P : Par} {n : Nat} (hn : 47 < n) {h : H} {s : Int} {maps o f : V} {bo bf : List Int} {to so tf sf : Int} (ho : getSub P.C h maps (.int s) = some o) (hf : getSub P.C h maps (.int (1 - s)) = some f) (mo : MapAt P.C h o bo to so) (mf : MapAt P.C h f bf tf sf)
    {b1 : Int} (h1 : bf[1]? = some b1) : Meets P n 47 [.int s,maps] h fun v h' => v = .int (Builtin.bitOr b1 (Builtin.bitAnd tf (Builtin.bitNot to))) ∧ h' = h := by
  obtain ⟨bb,hb,lb⟩ := mf.byl
  exact call_wp m47 hn ⟨rfl,_,rfl,_,rfl,_,ho,rfl,_,rfl,_,rfl,_,hf,rfl,_,rfl,_,hb,_,lb.sub (by decide) (by decide) h1,_,rfl,_,mf.tw,_,rfl,_,mo.tw,_,rfl,rfl,rfl⟩
noncomputable def bit (i : Int) (t : Nat) : Bool := match i with
  | .ofNat n => n.testBit t
  | .negSucc n => !n.testBit t
theorem bit_nat (n t : Nat) : bit (n : Int) t = n.testBit t := rfl
theorem not_pos (n : Nat) : Builtin.bitNot (.ofNat n) = .negSucc n := by cases n <;> rfl
theorem not_neg (n : Nat) : Builtin.bitNot (.negSucc n) = .ofNat n := Int.add_sub_cancel (n : Int) 1
theorem bit_not (x : Int) (t : Nat) : bit (Builtin.bitNot x) t = !bit x t := by
  cases x with
  | ofNat n => rw [not_pos]; rfl
  | negSucc n => rw [not_neg]; exact (Bool.not_not _).symm
theorem sub_half {n c : Nat} (h2 : c / 2 ≤ n / 2) (h1 : c % 2 ≤ n % 2) : (n - c) / 2 = n / 2 - c / 2 ∧ (n - c) % 2 = n % 2 - c % 2 := by
  obtain ⟨d,hd⟩ := Nat.exists_eq_add_of_le h2
  obtain ⟨e,he⟩ := Nat.exists_eq_add_of_le h1
  have key : n = c + (2 * d + e) := (Nat.div_add_mod n 2).symm.trans (by rw [hd,he,Nat.mul_add,Nat.add_add_add_comm,Nat.div_add_mod])
  have le : e < 2 := Nat.lt_of_le_of_lt (he ▸ Nat.le_add_left ..) (Nat.mod_lt n (by decide))
  have kd : n - c = 2 * d + e := eq_sub' ((Nat.add_comm ..).trans key.symm)
  rw [kd,hd,he,Nat.mul_add_div (by decide),Nat.div_eq_of_lt le,Nat.mul_add_mod,Nat.mod_eq_of_lt le,Nat.add_sub_cancel_left,Nat.add_sub_cancel_left]
  exact ⟨rfl,rfl⟩
theorem and_bits (n m : Nat) : (n &&& m) % 2 ≤ n % 2 ∧ decide (n % 2 - (n &&& m) % 2 = 1) = (decide (n % 2 = 1) && !decide (m % 2 = 1)) := by
  have h : (n &&& m).testBit 0 = (n.testBit 0 && m.testBit 0) := Nat.testBit_and ..
  rw [Nat.testBit_zero,Nat.testBit_zero,Nat.testBit_zero] at h
  rcases Nat.mod_two_eq_zero_or_one n with a | a <;> rcases Nat.mod_two_eq_zero_or_one m with b | b <;> rcases Nat.mod_two_eq_zero_or_one (n &&& m) with c | c <;> rw [a,b,c] at h <;> rw [a,b,c] <;> revert h <;> decide
theorem sub_and : ∀ (t n m : Nat),(n - (n &&& m)).testBit t = (n.testBit t && !m.testBit t)
  | 0,n,m => by
    obtain ⟨h1,h2⟩ := and_bits n m
    rw [Nat.testBit_zero,Nat.testBit_zero,Nat.testBit_zero,(sub_half (Nat.div_le_div_right Nat.and_le_left) h1).2,h2]
  | t + 1,n,m => by
    rw [Nat.testBit_succ,(sub_half (Nat.div_le_div_right Nat.and_le_left) (and_bits n m).1).1,Nat.and_div_two,sub_and t,Nat.testBit_succ,Nat.testBit_succ]
theorem bit_and (x y : Int) (t : Nat) : bit (Builtin.bitAnd x y) t = (bit x t && bit y t) := by
  have sub : ∀ n m : Nat,bit ((n : Int) - ((n &&& m : Nat) : Int)) t = (n.testBit t && !m.testBit t) := fun n m => by
    have hle : n &&& m ≤ n := Nat.and_le_left
    rw [← Int.ofNat_sub hle,bit_nat,sub_and]
  have nn : ∀ n : Nat,(Builtin.bitNot (.negSucc n)).toNat = n := fun n => congrArg Int.toNat (not_neg n)
  cases x with
  | ofNat n => cases y with
    | ofNat m => show bit ((n &&& m : Nat) : Int) t = _; rw [bit_nat,Nat.testBit_and]; rfl
    | negSucc m =>
      show bit ((n : Int) - ((n &&& (Builtin.bitNot (.negSucc m)).toNat : Nat) : Int)) t = _
      rw [nn,sub]; rfl
  | negSucc n => cases y with
    | ofNat m =>
      show bit ((m : Int) - ((m &&& (Builtin.bitNot (.negSucc n)).toNat : Nat) : Int)) t = _
      rw [nn,sub,Bool.and_comm]; rfl
    | negSucc m =>
      show bit (Builtin.bitNot (((Builtin.bitNot (.negSucc n)).toNat ||| (Builtin.bitNot (.negSucc m)).toNat : Nat) : Int)) t = _
      rw [nn,nn,bit_not,bit_nat,Nat.testBit_or,Bool.not_or]; rfl
theorem bit_or (x y : Int) (t : Nat) : bit (Builtin.bitOr x y) t = (bit x t || bit y t) := by
  unfold Builtin.bitOr
  rw [bit_not,bit_and,bit_not,bit_not]
  cases bit x t <;> cases bit y t <;> rfl
theorem bit_zero (t : Nat) : bit 0 t = false := Nat.zero_testBit t
theorem bit_big (x : Int) : ∃ N,∀ t,N ≤ t → bit x t = decide (x < 0) := by
  cases x with
  | ofNat n =>
    refine ⟨n,fun t ht => ?_⟩
    show n.testBit t = _
    rw [Nat.testBit_lt_two_pow (Nat.lt_of_le_of_lt ht Nat.lt_two_pow_self)]
    exact (decide_eq_false (Int.not_lt.mpr (Int.natCast_nonneg n))).symm
  | negSucc n =>
    refine ⟨n,fun t ht => ?_⟩
    show (!n.testBit t) = _
    rw [Nat.testBit_lt_two_pow (Nat.lt_of_le_of_lt ht Nat.lt_two_pow_self)]
    exact (decide_eq_true (Int.negSucc_lt_zero n)).symm
theorem nonneg_of {x : Int} {N : Nat} (h : ∀ t,N ≤ t → bit x t = false) : 0 ≤ x := by
  obtain ⟨M,hM⟩ := bit_big x
  have h1 := hM (max M N) (Nat.le_max_left ..)
  rw [h _ (Nat.le_max_right ..)] at h1
  exact Int.not_lt.mp (of_decide_eq_false h1.symm)
theorem bit_ext {x y : Int} (h : ∀ t,bit x t = bit y t) : x = y := by
  obtain ⟨M,hM⟩ := bit_big x
  obtain ⟨N,hN⟩ := bit_big y
  have hs : decide (x < 0) = decide (y < 0) := by rw [← hM (max M N) (Nat.le_max_left ..),← hN (max M N) (Nat.le_max_right ..),h]
  cases x with
  | ofNat n => cases y with
    | ofNat m => exact congrArg _ (Nat.eq_of_testBit_eq h)
    | negSucc m => exact absurd hs (by rw [decide_eq_false (show ¬ Int.ofNat n < 0 from fun q => absurd (Int.natCast_nonneg n) (Int.not_le.mpr q)),decide_eq_true (Int.negSucc_lt_zero m)]; decide)
  | negSucc n => cases y with
    | ofNat m => exact absurd hs (by rw [decide_eq_true (Int.negSucc_lt_zero n),decide_eq_false (show ¬ Int.ofNat m < 0 from fun q => absurd (Int.natCast_nonneg m) (Int.not_le.mpr q))]; decide)
    | negSucc m =>
      refine congrArg _ (Nat.eq_of_testBit_eq fun t => ?_)
      have : (!n.testBit t) = !m.testBit t := h t
      simpa using this
theorem bit_shr {x : Int} (hx : 0 ≤ x) (k t : Nat) : bit (x.fdiv (2 ^ k)) t = bit x (t + k) := by
  obtain ⟨n,rfl⟩ := Int.eq_ofNat_of_zero_le hx
  have : (n : Int).fdiv (2 ^ k) = ((n / 2 ^ k : Nat) : Int) := by
    rw [show (2 : Int) ^ k = ((2 ^ k : Nat) : Int) by simp,Int.fdiv_eq_ediv_of_nonneg _ (Int.natCast_nonneg _)]; rfl
  rw [this,bit_nat,bit_nat,Nat.testBit_div_two_pow]
theorem bit_shl {x : Int} (hx : 0 ≤ x) (k t : Nat) : bit (x * 2 ^ k) t = (decide (k ≤ t) && bit x (t - k)) := by
  obtain ⟨n,rfl⟩ := Int.eq_ofNat_of_zero_le hx
  have : (n : Int) * 2 ^ k = ((2 ^ k * n : Nat) : Int) := by simp [Int.mul_comm]
  rw [this,bit_nat,bit_nat,Nat.testBit_two_pow_mul]
theorem bit_pow (k t : Nat) : bit (2 ^ k : Int) t = decide (k = t) := by
  rw [show (2 : Int) ^ k = ((2 ^ k : Nat) : Int) by simp,bit_nat,Nat.testBit_two_pow]
theorem bit_one_shl (k t : Nat) : bit (1 * 2 ^ k : Int) t = decide (k = t) := by rw [Int.one_mul,bit_pow]
theorem small_of {x : Int} (h : ∀ t,64 ≤ t → bit x t = false) : small x = true := by
  have h0 := nonneg_of h
  obtain ⟨n,rfl⟩ := Int.eq_ofNat_of_zero_le h0
  refine decide_eq_true ?_
  refine Nat.lt_of_not_le fun q => ?_
  have h1 : (2 ^ 64 : Nat) ≤ n := by simpa using q
  obtain ⟨i,hi,hb⟩ := Nat.exists_ge_and_testBit_of_ge_two_pow h1
  have := h i hi
  rw [bit_nat,hb] at this; cases this
noncomputable def sq (X : Int) : List Nat := (List.range 64).filter (bit X)
theorem low_split : ∀ (n : Nat),n ≠ 0 → ∃ a m,n = 2 ^ (a + 1) * m + 2 ^ a := by
  intro n
  induction n using Nat.strongRecOn with
  | _ n ih =>
    intro h
    rcases Nat.mod_two_eq_zero_or_one n with q | q
    · obtain ⟨a,m,e⟩ := ih (n / 2) (Nat.div_lt_self (Nat.pos_of_ne_zero h) (by decide)) fun z => h (by rw [← Nat.div_add_mod n 2,z,q])
      refine ⟨a + 1,m,?_⟩
      have : n = 2 * (n / 2) := (Nat.mul_div_cancel' (Nat.dvd_of_mod_eq_zero q)).symm
      rw [this,e,Nat.mul_add,Nat.pow_succ 2 (a + 1),Nat.pow_succ 2 a]
      simp [Nat.mul_comm,Nat.mul_left_comm]
    · exact ⟨0,n / 2,(Nat.div_add_mod n 2).symm.trans (congrArg (2 * (n / 2) + ·) q)⟩
theorem low_bit (a m t : Nat) : (2 ^ (a + 1) * m + 2 ^ a).testBit t = (decide (a = t) || (2 ^ (a + 1) * m).testBit t) := by
  have hlt : 2 ^ a < 2 ^ (a + 1) := Nat.pow_lt_pow_of_lt (by decide) (Nat.lt_succ_self a)
  rw [Nat.testBit_two_pow_mul_add _ hlt,Nat.testBit_two_pow_mul,Nat.testBit_two_pow]
  by_cases h : t < a + 1
  · rw [if_pos h,decide_eq_false (Nat.not_le_of_lt h)]; simp
  · rw [if_neg h,decide_eq_false (fun z : a = t => h (z ▸ Nat.lt_succ_self a)),decide_eq_true (Nat.le_of_not_lt h)]; simp
theorem low_clear (a m : Nat) : (2 ^ (a + 1) * m + 2 ^ a) &&& (2 ^ (a + 1) * m + 2 ^ a - 1) = 2 ^ (a + 1) * m := by
  have hlt : 2 ^ a < 2 ^ (a + 1) := Nat.pow_lt_pow_of_lt (by decide) (Nat.lt_succ_self a)
  have hp : 0 < 2 ^ a := Nat.two_pow_pos a
  have e : 2 ^ (a + 1) * m + 2 ^ a - 1 = 2 ^ (a + 1) * m + (2 ^ a - 1) := (mul_pred hp).symm
  apply Nat.eq_of_testBit_eq
  intro t
  rw [e,Nat.testBit_and,low_bit,Nat.testBit_two_pow_mul_add _ (sub_lt' hlt : 2 ^ a - 1 < 2 ^ (a + 1)),Nat.testBit_two_pow_sub_one,Nat.testBit_two_pow_mul]
  by_cases h : t < a + 1
  · rw [if_pos h,decide_eq_false (Nat.not_le_of_lt h)]
    by_cases q : a = t
    · rw [decide_eq_false (fun z => absurd q (Nat.ne_of_gt z) : ¬ t < a)]; simp
    · simp [q]
  · rw [if_neg h,decide_eq_false (fun z : a = t => h (z ▸ Nat.lt_succ_self a))]; simp
theorem low_zero {a m t : Nat} (h : t ≤ a) : (2 ^ (a + 1) * m).testBit t = false := by
  rw [Nat.testBit_two_pow_mul,decide_eq_false (Nat.not_le_of_lt (Nat.lt_succ_of_le h))]; rfl
theorem filter_first {p q : Nat → Bool} {a : Nat} (ha : p a = true) (hlow : ∀ t,t < a → p t = false) (hq : ∀ t,q t = (p t && decide (t ≠ a))) : ∀ (l : List Nat),l.Pairwise (· < ·) → a ∈ l → l.filter p = a :: l.filter q
  | x :: r,hs,hm => by
    have hs' := List.pairwise_cons.mp hs
    rcases List.mem_cons.mp hm with e | e
    · subst e
      have hx : q a = false := by rw [hq]; simp
      rw [List.filter_cons_of_pos ha,List.filter_cons_of_neg (by rw [hx]; decide)]
      congr 1
      refine List.filter_congr fun t ht => ?_
      have := hs'.1 t ht
      rw [hq,decide_eq_true (Nat.ne_of_gt this : t ≠ a),Bool.and_true]
    · have hx : x < a := hs'.1 a e
      rw [List.filter_cons_of_neg (by rw [hlow x hx]; decide),List.filter_cons_of_neg (by rw [hq,hlow x hx]; simp)]
      exact filter_first ha hlow hq r hs'.2 e
noncomputable def Brd (X : Int) : Prop := ∀ t,64 ≤ t → bit X t = false
theorem Brd.nonneg {X : Int} (h : Brd X) : 0 ≤ X := nonneg_of h
theorem Brd.nat {X : Int} (h : Brd X) : ∃ n : Nat,X = n := Int.eq_ofNat_of_zero_le h.nonneg
theorem sq_zero : sq 0 = [] := by
  unfold sq; rw [List.filter_eq_nil_iff]; intro t _; rw [bit_zero]; decide
theorem sq_mem {X : Int} {t : Nat} (h : Brd X) : t ∈ sq X ↔ bit X t = true := by
  unfold sq
  rw [List.mem_filter,List.mem_range]
  refine ⟨fun q => q.2,fun q => ⟨Nat.lt_of_not_le fun z => ?_,q⟩⟩
  rw [h t z] at q; cases q
theorem sq_nil {X : Int} (h : Brd X) : sq X = [] ↔ X = 0 := by
  refine ⟨fun e => bit_ext fun t => ?_,fun e => by rw [e,sq_zero]⟩
  rw [bit_zero]
  cases q : bit X t with
  | false => rfl
  | true => have := (sq_mem h).mpr q; rw [e] at this; cases this
theorem clear_step {X : Int} (h : Brd X) (h0 : X ≠ 0) : ∃ a,a < 64 ∧ sq X = a :: sq (Builtin.bitAnd X (X - 1)) ∧ Brd (Builtin.bitAnd X (X - 1)) ∧ bit X a = true := by
  obtain ⟨n,rfl⟩ := h.nat
  have hn : n ≠ 0 := by rintro rfl; exact h0 rfl
  obtain ⟨a,m,e⟩ := low_split n hn
  have hp : 0 < 2 ^ a := Nat.two_pow_pos a
  have e1 : Builtin.bitAnd (n : Int) ((n : Int) - 1) = ((2 ^ (a + 1) * m : Nat) : Int) := by
    have : ((n : Int) - 1) = ((n - 1 : Nat) : Int) := cast_sub (Nat.pos_of_ne_zero hn)
    rw [this]
    show (((n : Nat) &&& (n - 1 : Nat) : Nat) : Int) = _
    rw [e,low_clear]
  have hb : bit (n : Int) a = true := by rw [bit_nat,e,low_bit]; simp
  have ha : a < 64 := Nat.lt_of_not_le fun q => by rw [h a q] at hb; cases hb
  have hq : ∀ t,bit (Builtin.bitAnd (n : Int) ((n : Int) - 1)) t = (bit (n : Int) t && decide (t ≠ a)) := fun t => by
    rw [e1,bit_nat,bit_nat,e,low_bit]
    by_cases q : a = t
    · subst q; rw [low_zero (Nat.le_refl _)]; simp
    · rw [decide_eq_false q,decide_eq_true (show t ≠ a from fun z => q z.symm)]; simp
  refine ⟨a,ha,filter_first hb (fun t ht => ?_) hq _ List.pairwise_lt_range (List.mem_range.mpr ha),fun t ht => by rw [hq,h t ht]; rfl,hb⟩
  rw [bit_nat,e,low_bit,low_zero (Nat.le_of_lt ht),decide_eq_false (Nat.ne_of_gt ht)]; rfl
theorem brd_mask {l : List Nat} (h : ∀ t ∈ l,t < 64) (X : Int) (hX : ∀ t,bit X t = l.contains t) : Brd X := fun t ht => by
  rw [hX]
  cases q : l.contains t with
  | false => rfl
  | true => have := h t (List.contains_iff_mem.mp q); exact absurd ht (Nat.not_le_of_lt this)
noncomputable def wayF (d : Nat) : Int := [0,1,0,-1,1,1,-1,-1].getD d 0
noncomputable def wayR (d : Nat) : Int := [1,0,-1,0,1,-1,-1,1].getD d 0
noncomputable def inB (fs rs : Nat) (f r : Int) : Bool := decide (0 ≤ f) && decide (f < fs) && (decide (0 ≤ r) && decide (r < rs))
noncomputable def walk (fs rs : Nat) (df dr : Int) : Nat → Int → Int → List Nat
  | 0,_,_ => []
  | k + 1,f,r => match inB fs rs f r with
    | true => (r * fs + f).toNat :: walk fs rs df dr k (f + df) (r + dr)
    | false => []
theorem walk_yes {fs rs : Nat} {df dr : Int} {k : Nat} {f r : Int} (c : inB fs rs f r = true) : walk fs rs df dr (k + 1) f r = (r * fs + f).toNat :: walk fs rs df dr k (f + df) (r + dr) := by
  show (match inB fs rs f r with | true => (r * fs + f).toNat :: walk fs rs df dr k (f + df) (r + dr) | false => []) = _
  rw [c]
theorem walk_no {fs rs : Nat} {df dr : Int} {k : Nat} {f r : Int} (c : inB fs rs f r = false) : walk fs rs df dr (k + 1) f r = [] := by
  show (match inB fs rs f r with | true => (r * fs + f).toNat :: walk fs rs df dr k (f + df) (r + dr) | false => []) = _
  rw [c]
noncomputable def fileOf (fs sq : Nat) : Int := ((sq % fs : Nat) : Int)
noncomputable def rankOf (fs sq : Nat) : Int := ((sq / fs : Nat) : Int)
noncomputable def rayL (fs rs d sq : Nat) : List Nat := walk fs rs (wayF d) (wayR d) 6 (fileOf fs sq + wayF d) (rankOf fs sq + wayR d)
noncomputable def hopsL (fs rs sq : Nat) (steps : List (Int × Int)) : List Nat := steps.filterMap fun p => match inB fs rs (fileOf fs sq + p.1) (rankOf fs sq + p.2) with
  | true => some ((rankOf fs sq + p.2) * fs + (fileOf fs sq + p.1)).toNat
  | false => none
noncomputable def waysL : List (Int × Int) := [(0,1),(1,0),(0,-1),(-1,0),(1,1),(1,-1),(-1,-1),(-1,1)]
noncomputable def jumpsL : List (Int × Int) := [(1,2),(2,1),(2,-1),(1,-2),(-1,-2),(-2,-1),(-2,1),(-1,2)]
noncomputable def pawnL (s : Nat) : List (Int × Int) := [(-1,1 - 2 * (s : Int)),(1,1 - 2 * (s : Int))]
noncomputable def mask (l : List Nat) : Nat := l.foldl (fun a t => a ||| 2 ^ t) 0
noncomputable def tabOf (fs rs : Nat) (f : Nat → List Nat) : List Int := (List.range (fs * rs)).map fun sq => ((mask (f sq) : Nat) : Int)
noncomputable def fileM (fs rs : Nat) : List Int := (List.range fs).map fun f => ((mask ((List.range (fs * rs)).filter fun t => Nat.beq (t % fs) f) : Nat) : Int)
noncomputable def rankM (fs rs : Nat) : List Int := (List.range rs).map fun r => ((mask ((List.range (fs * rs)).filter fun t => Nat.beq (t / fs) r) : Nat) : Int)
theorem mask_bit (l : List Nat) (t : Nat) : (mask l).testBit t = l.contains t := by
  have : ∀ (l : List Nat) (a : Nat),(l.foldl (fun a t => a ||| 2 ^ t) a).testBit t = (a.testBit t || l.contains t) := by
    intro l
    induction l with
    | nil => intro a; simp
    | cons x r ih =>
      intro a
      have e : decide (x = t) = (t == x) := by rw [Bool.eq_iff_iff,decide_eq_true_eq,beq_iff_eq]; exact eq_comm
      rw [List.foldl_cons,ih,Nat.testBit_or,Nat.testBit_two_pow,List.contains_cons,e,Bool.or_assoc]
  rw [mask,this,Nat.zero_testBit,Bool.false_or]
structure GeoAt (C : Nat → Option O) (h : H) (g : V) (fs rs : Nat) (hd : Bool) : Prop where
  files : getAttr h g 0 = some (.int fs)
  ranks : getAttr h g 1 = some (.int rs)
  size : getAttr h g 2 = some (.int ((fs * rs : Nat) : Int))
  full : getAttr h g 3 = some (.int ((2 ^ (fs * rs) - 1 : Nat) : Int))
  dbl : getAttr h g 4 = some (.bool (hd && Nat.ble 5 rs))
  fm : ∃ v,getAttr h g 6 = some v ∧ IntL C h v (fileM fs rs)
  rm : ∃ v,getAttr h g 7 = some v ∧ IntL C h v (rankM fs rs)
  rays : ∃ v rows,getAttr h g 8 = some v ∧ objOf C h v = some (.lst rows) ∧ ∀ d,d < 8 → ∃ r,rows[d]? = some r ∧ IntL C h r (tabOf fs rs (rayL fs rs d))
  king : ∃ v,getAttr h g 9 = some v ∧ IntL C h v (tabOf fs rs fun sq => hopsL fs rs sq waysL)
  knight : ∃ v,getAttr h g 10 = some v ∧ IntL C h v (tabOf fs rs fun sq => hopsL fs rs sq jumpsL)
  pawn : ∃ v p0 p1,getAttr h g 11 = some v ∧ objOf C h v = some (.lst [p0,p1]) ∧ IntL C h p0 (tabOf fs rs fun sq => hopsL fs rs sq (pawnL 0)) ∧ IntL C h p1 (tabOf fs rs fun sq => hopsL fs rs sq (pawnL 1))
theorem GeoAt.mono {C : Nat → Option O} {B h : H} {g : V} {fs rs : Nat} {hd : Bool} (p : B <+: h) (x : GeoAt C B g fs rs hd) : GeoAt C h g fs rs hd := by
  obtain ⟨a,b,c,d,e,⟨v1,f1,f2⟩,⟨v2,g1,g2⟩,⟨v3,rows,h1,h2,h3⟩,⟨v4,i1,i2⟩,⟨v5,j1,j2⟩,v6,p0,p1,k1,k2,k3,k4⟩ := x
  exact ⟨attr_pre p a,attr_pre p b,attr_pre p c,attr_pre p d,attr_pre p e,⟨v1,attr_pre p f1,f2.mono p⟩,⟨v2,attr_pre p g1,g2.mono p⟩,⟨v3,rows,attr_pre p h1,obj_pre p h2,fun d hd => let ⟨r,r1,r2⟩ := h3 d hd; ⟨r,r1,r2.mono p⟩⟩,
    ⟨v4,attr_pre p i1,i2.mono p⟩,⟨v5,attr_pre p j1,j2.mono p⟩,v6,p0,p1,attr_pre p k1,obj_pre p k2,k3.mono p,k4.mono p⟩
noncomputable def eqN (i j : Int) : Bool := match i with
  | .ofNat a => match j with
    | .ofNat b => Nat.beq a b
    | _ => false
  | _ => false
noncomputable def eqI (x : V) (j : Int) : Bool := match x with
  | .int i => eqN i j
  | _ => false
noncomputable def eqInts : List V → List Int → Bool
  | [],[] => true
  | x :: r,j :: l => eqI x j && eqInts r l
  | _,_ => false
theorem eqN_of {i j : Int} (h : eqN i j = true) : i = j := by
  cases i with
  | ofNat a => cases j with
    | ofNat b => exact congrArg Int.ofNat (Nat.eq_of_beq_eq_true h)
    | negSucc b => exact ff h
  | negSucc a => exact ff h
theorem eqI_of {x : V} {j : Int} (h : eqI x j = true) : x = .int j := by
  cases x with
  | int i => exact congrArg V.int (eqN_of h)
  | _ => cases h
theorem eqInts_of : ∀ {xs : List V} {l : List Int},eqInts xs l = true → xs = l.map .int
  | [],[],_ => rfl
  | [],_ :: _,h => nomatch h
  | _ :: _,[],h => nomatch h
  | x :: r,j :: l,h => by
    obtain ⟨h1,h2⟩ := Bool.and_eq_true_iff.mp h
    rw [eqI_of h1,eqInts_of h2]; rfl
noncomputable def yes (b : Bool) : Option Unit := match b with
  | true => some ()
  | false => none
theorem yes_inv {b : Bool} {u : Unit} (h : yes b = some u) : b = true := by
  cases b with
  | true => rfl
  | false => exact nn h
noncomputable def isL (h : H) (v : V) (l : List Int) : Bool := (bA v fun a => bL h[a]? fun xs => yes (eqInts xs l)).isSome
theorem isL_of {C : Nat → Option O} {h : H} {v : V} {l : List Int} (e : isL h v l = true) : IntL C h v l := by
  obtain ⟨u,e⟩ := Option.isSome_iff_exists.mp e
  obtain ⟨a,rfl,e⟩ := bA_inv e
  obtain ⟨xs,he,e⟩ := bL_inv e
  show h[a]? = _
  rw [he,eqInts_of (yes_inv e)]
noncomputable def attrL (h : H) (g : V) (k : Nat) (l : List Int) : Bool := (bq (getAttr h g k) fun v => yes (isL h v l)).isSome
theorem attrL_of {C : Nat → Option O} {h : H} {g : V} {k : Nat} {l : List Int} (e : attrL h g k l = true) : ∃ v,getAttr h g k = some v ∧ IntL C h v l := by
  obtain ⟨u,e⟩ := Option.isSome_iff_exists.mp e
  obtain ⟨v,hv,e⟩ := bq_inv e
  exact ⟨v,hv,isL_of (yes_inv e)⟩
noncomputable def attrI (h : H) (g : V) (k n : Nat) : Bool := (bq (getAttr h g k) fun v => yes (eqI v n)).isSome
theorem attrI_of {h : H} {g : V} {k n : Nat} (e : attrI h g k n = true) : getAttr h g k = some (.int n) := by
  obtain ⟨u,e⟩ := Option.isSome_iff_exists.mp e
  obtain ⟨v,hv,e⟩ := bq_inv e
  rw [hv,eqI_of (yes_inv e)]
noncomputable def rowsL (h : H) : List V → List (List Int) → Bool
  | [],[] => true
  | v :: r,l :: ls => isL h v l && rowsL h r ls
  | _,_ => false
theorem rowsL_of {C : Nat → Option O} {h : H} : ∀ {vs : List V} {ls : List (List Int)},rowsL h vs ls = true → ∀ (i : Nat) (l : List Int),ls[i]? = some l → ∃ v,vs[i]? = some v ∧ IntL C h v l
  | [],[],_,i,l,e => by cases i <;> exact nn e
  | v :: r,x :: ls,q,i,l,e => by
    obtain ⟨a,b⟩ := Bool.and_eq_true_iff.mp q
    cases i with
    | zero => cases e; exact ⟨v,rfl,isL_of a⟩
    | succ i => exact rowsL_of b i l e
  | [],_ :: _,q,_,_,_ => nomatch q
  | _ :: _,[],q,_,_,_ => nomatch q
noncomputable def attrR (h : H) (g : V) (k : Nat) (f : List V → Bool) : Bool := (bq (getAttr h g k) fun v => bA v fun a => bL h[a]? fun rows => yes (f rows)).isSome
theorem attrR_of {h : H} {g : V} {k : Nat} {f : List V → Bool} (e : attrR h g k f = true) : ∃ a rows,getAttr h g k = some (.ref a) ∧ h[a]? = some (.lst rows) ∧ f rows = true := by
  obtain ⟨u,e⟩ := Option.isSome_iff_exists.mp e
  obtain ⟨v,hv,e⟩ := bq_inv e
  obtain ⟨a,rfl,e⟩ := bA_inv e
  obtain ⟨rows,hr,e⟩ := bL_inv e
  exact ⟨a,rows,hv,hr,yes_inv e⟩
noncomputable def twoL (h : H) (l0 l1 : List Int) (ps : List V) : Bool := (b2 ps fun p0 p1 => yes (isL h p0 l0 && isL h p1 l1)).isSome
theorem twoL_of {C : Nat → Option O} {h : H} {l0 l1 : List Int} {ps : List V} (e : twoL h l0 l1 ps = true) : ∃ p0 p1,ps = [p0,p1] ∧ IntL C h p0 l0 ∧ IntL C h p1 l1 := by
  obtain ⟨u,e⟩ := Option.isSome_iff_exists.mp e
  obtain ⟨p0,p1,hp,e⟩ := b2_inv e
  obtain ⟨a,b⟩ := Bool.and_eq_true_iff.mp (yes_inv e)
  exact ⟨p0,p1,hp,isL_of a,isL_of b⟩
noncomputable def chkGeo (fs rs : Nat) (g : V) (h : H) : Bool :=
  attrI h g 0 fs && (attrI h g 1 rs && (attrI h g 2 (fs * rs) && (attrI h g 3 (2 ^ (fs * rs) - 1) && (attrL h g 6 (fileM fs rs) && (attrL h g 7 (rankM fs rs) &&
  (attrR h g 8 (fun rows => rowsL h rows ((List.range 8).map fun d => tabOf fs rs (rayL fs rs d))) &&
  (attrL h g 9 (tabOf fs rs fun sq => hopsL fs rs sq waysL) && (attrL h g 10 (tabOf fs rs fun sq => hopsL fs rs sq jumpsL) &&
  attrR h g 11 (twoL h (tabOf fs rs fun sq => hopsL fs rs sq (pawnL 0)) (tabOf fs rs fun sq => hopsL fs rs sq (pawnL 1)))))))))))
theorem geoAt_of {C : Nat → Option O} {fs rs : Nat} {hd : Bool} {g : V} {h : H} (e : chkGeo fs rs g h = true) (hb : getAttr h g 4 = some (.bool (hd && Nat.ble 5 rs))) : GeoAt C h g fs rs hd := by
  obtain ⟨a,e⟩ := Bool.and_eq_true_iff.mp e
  obtain ⟨b,e⟩ := Bool.and_eq_true_iff.mp e
  obtain ⟨c,e⟩ := Bool.and_eq_true_iff.mp e
  obtain ⟨d,e⟩ := Bool.and_eq_true_iff.mp e
  obtain ⟨f,e⟩ := Bool.and_eq_true_iff.mp e
  obtain ⟨i,e⟩ := Bool.and_eq_true_iff.mp e
  obtain ⟨j,e⟩ := Bool.and_eq_true_iff.mp e
  obtain ⟨k,e⟩ := Bool.and_eq_true_iff.mp e
  obtain ⟨l,m⟩ := Bool.and_eq_true_iff.mp e
  obtain ⟨j1,rows,j2,j3,j4⟩ := attrR_of j
  obtain ⟨m1,ps,m2,m3,m4⟩ := attrR_of m
  obtain ⟨p0,p1,rfl,m5,m6⟩ := twoL_of (C := C) m4
  exact ⟨attrI_of a,attrI_of b,attrI_of c,attrI_of d,hb,attrL_of f,attrL_of i,⟨_,rows,j2,j3,fun d hd => rowsL_of j4 d _ (by rw [List.getElem?_map,List.getElem?_range hd]; rfl)⟩,attrL_of k,attrL_of l,_,p0,p1,m2,m3,m5,m6⟩
noncomputable def tabM (i : Nat) : Option FnM := ([fnT 0,m1.val,m2.val,m3.val,m4.val,m5.val,m6.val,m7.val,m8.val,m9.val,m10.val,m11.val,m12.val,m13.val,m14.val,m15.val,m16.val,m17.val,m18.val,m19.val,m20.val,m21.val][i]?).getD none
theorem tabM_eq (i : Nat) (h : i < 22) : tabM i = fnT i := by
  match i,h with
  | 0,_ => rfl
  | 1,_ => exact m1.property.symm
  | 2,_ => exact m2.property.symm
  | 3,_ => exact m3.property.symm
  | 4,_ => exact m4.property.symm
  | 5,_ => exact m5.property.symm
  | 6,_ => exact m6.property.symm
  | 7,_ => exact m7.property.symm
  | 8,_ => exact m8.property.symm
  | 9,_ => exact m9.property.symm
  | 10,_ => exact m10.property.symm
  | 11,_ => exact m11.property.symm
  | 12,_ => exact m12.property.symm
  | 13,_ => exact m13.property.symm
  | 14,_ => exact m14.property.symm
  | 15,_ => exact m15.property.symm
  | 16,_ => exact m16.property.symm
  | 17,_ => exact m17.property.symm
  | 18,_ => exact m18.property.symm
  | 19,_ => exact m19.property.symm
  | 20,_ => exact m20.property.symm
  | 21,_ => exact m21.property.symm
  | n + 22,h => (first | lia | omega)
theorem callN_T {P : Par} {T T' : Nat → Option FnM} : ∀ n,(∀ i,i < n → T i = T' i) → callN P T n = callN P T' n
  | 0,_ => rfl
  | n + 1,h => by
    funext f args hp
    show (if f = n then bq (T n) fun m => runFn P (callN P T n) m args hp else callN P T n f args hp) = if f = n then bq (T' n) fun m => runFn P (callN P T' n) m args hp else callN P T' n f args hp
    rw [callN_T n fun i hi => h i (Nat.lt_succ_of_lt hi),h n (Nat.lt_succ_self n)]
theorem callM {P : Par} {n : Nat} (h : n ≤ 22) : callN P tabM n = callN P fnT n := callN_T n fun i hi => tabM_eq i (by (first | lia | omega))
noncomputable def geoRest (P : Par) (g : V) (h : H) : Option H := bo (callN P tabM 22 16 [g] h) fun v h1 => bN v (bo (callN P tabM 22 18 [g] h1) fun v h2 => bN v (bo (callN P tabM 22 19 [g] h2) fun v h3 => bN v (bo (callN P tabM 22 20 [g] h3) fun v h4 => bN v (bo (callN P tabM 22 21 [g] h4) fun v h5 => bN v (some h5)))))
section
variable {sa : Nat} {zs : List Int} {n : Nat} {h : H}
theorem last_get (h : H) (o : O) : (h ++ [o])[h.length]? = some o := by rw [List.getElem?_append_right (Nat.le_refl _),Nat.sub_self]; rfl
theorem last_set (h : H) (o o' : O) : (h ++ [o]).set h.length o' = h ++ [o'] := by
  rw [List.set_append,if_neg (Nat.lt_irrefl _),Nat.sub_self]; rfl
inductive J5a (h : H) (X : Int) (k : Nat) (σ : Sig) (h' : H) : Prop
  | mk (Y : Int) (c : Nat) (c0 : σ = [some (.int Y),some (.int c)]) (c1 : h' = h) (c2 : Brd Y) (c3 : k = (sq Y).length) (c4 : c + (sq Y).length = (sq X).length) : J5a h X k σ h'
theorem t5 (hn : 5 < n) {X : Int} (hX : Brd X) : Meets (P0 sa zs) n 5 [.int X] h fun v h' => v = .int ((sq X).length : Nat) ∧ h' = h := by
  have hlen : (sq X).length < whileMax := by
    have : (sq X).length ≤ 64 := by have := List.length_filter_le (bit X) (List.range 64); rwa [List.length_range] at this
    exact Nat.lt_of_le_of_lt this (by decide)
  refine call_wp m5 hn ⟨rfl,rfl,while_wp (J5a h X) _ (fun k σ h' j => ?_) whileMax hlen ⟨X,0,rfl,rfl,hX,rfl,Nat.zero_add _⟩⟩
  obtain ⟨Y,c,rfl,rfl,hY,rfl,hc⟩ := j
  refine ⟨_,rfl,fun h0 => ?_,fun h0 => ⟨_,rfl,?_,rfl⟩⟩
  · obtain ⟨a,_,e,hb,_⟩ := clear_step hY h0
    refine ⟨by rw [e]; exact Nat.succ_ne_zero _,_,rfl,_,rfl,_,rfl,(sq (Builtin.bitAnd Y (Y - 1))).length,by rw [e]; exact Nat.lt_succ_self _,_,c + 1,rfl,rfl,hb,rfl,?_⟩
    rw [e,List.length_cons] at hc
    exact (Nat.add_right_comm ..).trans hc
  · subst h0; rw [sq_zero] at hc; rw [← hc]; rfl
theorem t6 (hn : 6 < n) {X : Int} : Meets (P0 sa zs) n 6 [.int X] h fun v h' => v = .bool (Builtin.bitAnd X (X - 1) != 0) ∧ h' = h := call_wp m6 hn ⟨rfl,_,rfl,_,rfl,rfl,rfl⟩
theorem t10 (hn : 10 < n) {X : Int} : Meets (P0 sa zs) n 10 [.int X] h fun v h' => v = .int (X.fdiv (2 ^ 3)) ∧ h' = h := call_wp m10 hn ⟨rfl,_,rfl,_,rfl,rfl,rfl⟩
theorem t11 (hn : 11 < n) {X : Int} : Meets (P0 sa zs) n 11 [.int X] h fun v h' => v = .int (Builtin.bitAnd X 7) ∧ h' = h := call_wp m11 hn ⟨rfl,_,rfl,rfl,rfl⟩
theorem shr_bits {X : Int} (hX : Brd X) (k : Nat) : Brd (X.fdiv (2 ^ k)) := fun t ht => by rw [bit_shr hX.nonneg]; exact hX _ (Nat.le_add_right_of_le ht)
theorem low4 {Y : Int} (h : Builtin.bitAnd Y 15 = 0) : ∀ t,t < 4 → bit Y t = false := fun t ht => by
  have : bit (Builtin.bitAnd Y 15) t = false := by rw [h,bit_zero]
  rw [bit_and] at this
  have h15 : bit 15 t = true := (show ∀ t,t < 4 → bit 15 t = true by decide) t ht
  rwa [h15,Bool.and_true] at this
theorem low1 (Y : Int) : Builtin.bitAnd Y 1 ≠ 0 ↔ bit Y 0 = true := by
  have e : ∀ t,bit (Builtin.bitAnd Y 1) t = (bit Y t && decide (0 = t)) := fun t => by rw [bit_and,show (1 : Int) = 2 ^ 0 from rfl,bit_pow]
  refine ⟨fun q => ?_,fun q z => ?_⟩
  · cases hb : bit Y 0 with
    | true => rfl
    | false =>
      refine absurd (bit_ext fun t => ?_) q
      rw [e,bit_zero]
      by_cases z : 0 = t
      · subst z; rw [hb]; rfl
      · rw [decide_eq_false z,Bool.and_false]
  · have := e 0; rw [z,bit_zero,q] at this; exact ff this
noncomputable def sqTo (X : Int) (s : Nat) : List Nat := (List.range s).filter (bit X)
set_option tactic.hygienic true in
theorem sqTo_succ (X : Int) (s : Nat) : sqTo X (s + 1) = if bit X s then sqTo X s ++ [s] else sqTo X s := by
  unfold sqTo
  rw [List.range_succ,List.filter_append]
  split
  · rename_i q; rw [List.filter_cons_of_pos q]; rfl
  · rename_i q; rw [List.filter_cons_of_neg q]; simp
theorem sqTo_all {X : Int} (h : Brd X) {s : Nat} (hs : ∀ t,s ≤ t → bit X t = false) : sqTo X s = sq X := by
  have key : ∀ k,sqTo X (s + k) = sqTo X s := by
    intro k
    induction k with
    | zero => rfl
    | succ k ih => rw [← Nat.add_assoc,sqTo_succ,if_neg (by rw [hs _ (Nat.le_add_right ..)]; decide),ih]
  have key2 : ∀ k,sqTo X (64 + k) = sqTo X 64 := by
    intro k
    induction k with
    | zero => rfl
    | succ k ih => rw [← Nat.add_assoc,sqTo_succ,if_neg (by rw [h _ (Nat.le_add_right ..)]; decide),ih]
  rw [← key 64,Nat.add_comm,key2]; rfl
theorem shr_shr {X : Int} (hX : Brd X) (s k : Nat) : (X.fdiv (2 ^ s)).fdiv (2 ^ k) = X.fdiv (2 ^ (s + k)) := bit_ext fun t => by
  rw [bit_shr (shr_bits hX s).nonneg,bit_shr hX.nonneg,bit_shr hX.nonneg]; rw [Nat.add_assoc,Nat.add_comm k]
theorem shr_ne {X : Int} (hX : Brd X) {s : Nat} : X.fdiv (2 ^ s) ≠ 0 ↔ ∃ t,s ≤ t ∧ t < 64 ∧ bit X t = true := by
  refine ⟨fun h => ?_,fun ⟨t,h1,h2,h3⟩ h => ?_⟩
  · refine Classical.byContradiction fun q => h (bit_ext fun t => ?_)
    rw [bit_shr hX.nonneg,bit_zero]
    cases hb : bit X (t + s) with
    | false => rfl
    | true => exact absurd ⟨t + s,Nat.le_add_left ..,Nat.lt_of_not_le fun z => (by rw [hX _ z] at hb; cases hb),hb⟩ q
  · have : bit (X.fdiv (2 ^ s)) (t - s) = bit X (t - s + s) := bit_shr hX.nonneg ..
    rw [h,bit_zero,Nat.sub_add_cancel h1,h3] at this; exact ff this
theorem sqTo_skip {X : Int} {s : Nat} : ∀ k,(∀ t,s ≤ t → t < s + k → bit X t = false) → sqTo X (s + k) = sqTo X s
  | 0,_ => rfl
  | k + 1,h => by rw [← Nat.add_assoc,sqTo_succ,if_neg (by rw [h _ (Nat.le_add_right ..) (Nat.lt_succ_self _)]; decide),sqTo_skip k fun t a b => h t a (Nat.lt_succ_of_lt b)]
inductive J9a (h : H) (X : Int) (k : Nat) (σ : Sig) (h' : H) : Prop
  | mk (s : Nat) (c0 : σ = [some (.int (X.fdiv (2 ^ s))),some (.ref h.length),some (.int s)]) (c1 : h' = h ++ [.lst ((sqTo X s).map fun (t : Nat) => V.int t)]) (c2 : k = 64 - s) : J9a h X k σ h'
inductive J9b (h : H) (X : Int) (s₀ : Nat) (k : Nat) (σ : Sig) (h' : H) : Prop
  | mk (s : Nat) (c0 : σ = [some (.int (X.fdiv (2 ^ s))),some (.ref h.length),some (.int s)]) (c1 : h' = h ++ [.lst ((sqTo X s).map fun (t : Nat) => V.int t)]) (c2 : k = 64 - s) (c3 : X.fdiv (2 ^ s) ≠ 0) (c4 : s₀ ≤ s) : J9b h X s₀ k σ h'
theorem t9 (hn : 9 < n) {X : Int} (hX : Brd X) : Meets (P0 sa zs) n 9 [.int X] h fun v h' => v = .ref h.length ∧ h' = h ++ [.lst ((sq X).map fun (t : Nat) => V.int t)] := by
  refine call_wp m9 hn ⟨rfl,rfl,rfl,rfl,while_wp (J9a h X) _ (fun k σ h' j => ?_) whileMax (n := 64) (by decide)
    ⟨0,by simp,rfl,rfl⟩⟩
  obtain ⟨s₀,rfl,rfl,rfl⟩ := j
  refine ⟨_,rfl,fun h0 => ?_,fun h0 => ⟨_,rfl,rfl,?_⟩⟩
  · obtain ⟨t,h1,h2,_⟩ := (shr_ne hX).mp h0
    refine ⟨Nat.sub_ne_zero_of_lt (Nat.lt_of_le_of_lt h1 h2),while_wp (J9b h X s₀) _ (fun k σ h' j => ?_) whileMax (n := 64 - s₀) (Nat.lt_of_le_of_lt (Nat.sub_le ..) (by decide)) ⟨s₀,rfl,rfl,rfl,h0,Nat.le_refl _⟩⟩
    obtain ⟨s,rfl,rfl,rfl,hb,hs⟩ := j
    obtain ⟨t,h1,h2,h3⟩ := (shr_ne hX).mp hb
    refine ⟨_,rfl,_,rfl,fun q => ?_,fun q => ?_⟩
    · have q0 : Builtin.bitAnd (X.fdiv (2 ^ s)) 15 = 0 := by simpa using q
      have hl : ∀ u,s ≤ u → u < s + 4 → bit X u = false := fun u a b => by
        have := low4 q0 (u - s) (Nat.sub_lt_left_of_lt_add a b)
        rwa [bit_shr hX.nonneg,Nat.sub_add_cancel a] at this
      have ht : s + 4 ≤ t := Nat.le_of_not_lt fun z => by rw [hl t h1 z] at h3; cases h3
      exact ⟨Nat.sub_ne_zero_of_lt (Nat.lt_of_le_of_lt h1 h2),_,rfl,_,rfl,_,rfl,64 - (s + 4),Nat.sub_lt_sub_left (Nat.lt_of_le_of_lt h1 h2) (Nat.lt_add_of_pos_right (by decide)),s + 4,by rw [← shr_shr hX]; rfl,by rw [sqTo_skip 4 hl],rfl,(shr_ne hX).mpr ⟨t,ht,h2,h3⟩,Nat.le_add_right_of_le hs⟩
    · have next : ∀ h'',h'' = h ++ [.lst ((sqTo X (s + 1)).map fun (t : Nat) => V.int t)] → LtQ (64 - s₀) (J9a h X) [some (V.int ((X.fdiv (2 ^ s)).fdiv (2 ^ 1))),some (.ref h.length),some (.int ((s : Int) + 1))] h'' := fun h'' e => ⟨64 - (s + 1),Nat.sub_lt_sub_left (Nat.lt_of_le_of_lt (Nat.le_trans hs h1) h2) (Nat.lt_succ_of_le hs),s + 1,by rw [← shr_shr hX]; rfl,e,rfl⟩
      have e0 : bit (X.fdiv (2 ^ s)) 0 = bit X s := by rw [bit_shr hX.nonneg,Nat.zero_add]
      refine ⟨_,rfl,fun q1 => ?_,fun q1 => ?_⟩
      · have hbit : bit X s = true := by rw [← e0]; exact (low1 _).mp q1
        refine ⟨_,rfl,_,last_get h _,_,rfl,.none,_,?_,rfl,_,rfl,_,rfl,_,rfl,next _ rfl⟩
        have hlt : ((sqTo X s).map fun (t : Nat) => V.int t).length < lenMax := by
          have : (sqTo X s).length ≤ s := by have := List.length_filter_le (bit X) (List.range s); rwa [List.length_range] at this
          rw [List.length_map]; exact Nat.lt_of_le_of_lt (Nat.le_trans this (Nat.le_of_lt (Nat.lt_of_le_of_lt h1 h2))) (by decide)
        exact bL_mk (X := (h ++ [O.lst _])[h.length]?) (last_get _ _) ((if_pos hlt).trans (by rw [last_set,sqTo_succ,if_pos hbit,List.map_append]; rfl))
      · have hbit : bit X s = false := by
          cases z : bit X s with
          | false => rfl
          | true => exact absurd q1 ((low1 _).mpr (e0.trans z))
        exact ⟨_,rfl,_,rfl,_,rfl,next _ (by rw [sqTo_succ,if_neg (by rw [hbit]; decide)])⟩
  · have hz : ∀ t,s₀ ≤ t → bit X t = false := fun t ht => by
      have : bit (X.fdiv (2 ^ s₀)) (t - s₀) = bit X (t - s₀ + s₀) := bit_shr hX.nonneg ..
      rw [h0,bit_zero,Nat.sub_add_cancel ht] at this; exact this.symm
    rw [sqTo_all hX hz]
end
noncomputable def mk (N : Nat) (p : Nat → Bool) : Int := ((mask ((List.range N).filter p) : Nat) : Int)
theorem bit_mk (N : Nat) (p : Nat → Bool) (t : Nat) : bit (mk N p) t = (decide (t < N) && p t) := by
  rw [mk,bit_nat,mask_bit,Bool.eq_iff_iff,List.contains_iff_mem,List.mem_filter,List.mem_range,Bool.and_eq_true,decide_eq_true_eq]
theorem mk_of {N : Nat} {p : Nat → Bool} {X : Int} (h : ∀ t,bit X t = (decide (t < N) && p t)) : X = mk N p := bit_ext fun t => by rw [h,bit_mk]
theorem mk_congr {N : Nat} {p q : Nat → Bool} (h : ∀ t,t < N → p t = q t) : mk N p = mk N q := mk_of fun t => by
  rw [bit_mk]
  by_cases z : t < N
  · rw [h t z]
  · rw [decide_eq_false z]; rfl
theorem brd_mk {N : Nat} (hN : N ≤ 64) (p : Nat → Bool) : Brd (mk N p) := fun t ht => by rw [bit_mk,decide_eq_false (Nat.not_lt_of_le (Nat.le_trans hN ht))]; rfl
theorem sq_mk {N : Nat} (hN : N ≤ 64) (p : Nat → Bool) : sq (mk N p) = (List.range N).filter p := by
  have e : List.range 64 = List.range N ++ (List.range (64 - N)).map (N + ·) := by rw [← List.range_add,Nat.add_sub_cancel' hN]
  unfold sq
  rw [e,List.filter_append]
  have e1 : (List.range N).filter (bit (mk N p)) = (List.range N).filter p := List.filter_congr fun t ht => by rw [bit_mk,decide_eq_true (List.mem_range.mp ht)]; rfl
  have e2 : ((List.range (64 - N)).map (N + ·)).filter (bit (mk N p)) = [] := by
    rw [List.filter_eq_nil_iff]
    intro t ht
    obtain ⟨u,_,rfl⟩ := List.mem_map.mp ht
    rw [bit_mk,decide_eq_false (Nat.not_lt_of_le (Nat.le_add_right ..))]; simp
  rw [e1,e2,List.append_nil]
theorem mk_eq_zero {N : Nat} {p : Nat → Bool} : mk N p = 0 ↔ ∀ t,t < N → p t = false := by
  refine ⟨fun e t ht => ?_,fun e => ?_⟩
  · have := bit_mk N p t
    rw [e,bit_zero,decide_eq_true ht] at this; exact this.symm
  · refine bit_ext fun t => ?_
    rw [bit_mk,bit_zero]
    by_cases z : t < N
    · rw [e t z,Bool.and_false]
    · rw [decide_eq_false z]; rfl
theorem mk_ne_zero {N : Nat} {p : Nat → Bool} : mk N p ≠ 0 ↔ ∃ t,t < N ∧ p t = true := by
  rw [Ne,mk_eq_zero]
  refine ⟨fun h => Classical.byContradiction fun q => h fun t ht => ?_,fun ⟨t,ht,hp⟩ q => by rw [q t ht] at hp; cases hp⟩
  cases hp : p t with
  | false => rfl
  | true => exact absurd ⟨t,ht,hp⟩ q
theorem mk_inj {N : Nat} {p q : Nat → Bool} (e : mk N p = mk N q) (t : Nat) (ht : t < N) : p t = q t := by
  have h1 := bit_mk N p t
  rw [e,bit_mk,decide_eq_true ht] at h1; exact h1.symm
theorem and_mk {N : Nat} {p q : Nat → Bool} : Builtin.bitAnd (mk N p) (mk N q) = mk N (fun t => p t && q t) := mk_of fun t => by
  rw [bit_and,bit_mk,bit_mk]; cases decide (t < N) <;> simp
theorem or_mk {N : Nat} {p q : Nat → Bool} : Builtin.bitOr (mk N p) (mk N q) = mk N (fun t => p t || q t) := mk_of fun t => by
  rw [bit_or,bit_mk,bit_mk]; cases decide (t < N) <;> simp
theorem andn_mk {N : Nat} {p q : Nat → Bool} : Builtin.bitAnd (mk N p) (Builtin.bitNot (mk N q)) = mk N (fun t => p t && !q t) := mk_of fun t => by
  rw [bit_and,bit_not,bit_mk,bit_mk]; cases decide (t < N) <;> simp
theorem andon_mk {N : Nat} {p q r : Nat → Bool} : Builtin.bitAnd (mk N p) (Builtin.bitOr (Builtin.bitNot (mk N q)) (mk N r)) = mk N (fun t => p t && (!q t || r t)) := mk_of fun t => by
  rw [bit_and,bit_or,bit_not,bit_mk,bit_mk,bit_mk]; cases decide (t < N) <;> simp
theorem mk_nil (N : Nat) : mk N (fun _ => false) = 0 := mk_eq_zero.mpr fun _ _ => rfl
theorem full_mk (N : Nat) : ((2 ^ N - 1 : Nat) : Int) = mk N (fun _ => true) := mk_of fun t => by rw [bit_nat,Nat.testBit_two_pow_sub_one,Bool.and_true]
theorem mask_mk {N : Nat} {l : List Nat} (h : ∀ t ∈ l,t < N) : ((mask l : Nat) : Int) = mk N (fun t => l.contains t) := mk_of fun t => by
  rw [bit_nat,mask_bit]
  cases q : l.contains t with
  | false => simp
  | true => rw [decide_eq_true (h t (List.contains_iff_mem.mp q))]; rfl
theorem pow_mk {N k : Nat} (h : k < N) : (2 : Int) ^ k = mk N (fun t => Nat.beq k t) := mk_of fun t => by
  rw [bit_pow]
  by_cases z : k = t
  · subst z; rw [decide_eq_true rfl,decide_eq_true h,Nat.beq_refl]; rfl
  · rw [decide_eq_false z]
    cases q : Nat.beq k t with
    | false => simp
    | true => exact absurd (Nat.eq_of_beq_eq_true q) z
theorem mk_nat (N : Nat) (p : Nat → Bool) : ∃ m : Nat,mk N p = m := ⟨_,rfl⟩
theorem mk_nonneg (N : Nat) (p : Nat → Bool) : 0 ≤ mk N p := Int.natCast_nonneg _
theorem mk_small {N : Nat} (hN : N ≤ 64) (p : Nat → Bool) : small (mk N p) = true := small_of (brd_mk hN p)
theorem or_nat (n m : Nat) : Builtin.bitOr (n : Int) (m : Int) = ((n ||| m : Nat) : Int) := bit_ext fun t => by rw [bit_or,bit_nat,bit_nat,bit_nat,Nat.testBit_or]
theorem bit_xor_nat (n m t : Nat) : bit (Builtin.bitXor (n : Int) (m : Int)) t = (n.testBit t ^^ m.testBit t) := by
  have e : Builtin.bitXor (n : Int) (m : Int) = (((n ||| m) - ((n ||| m) &&& (n &&& m)) : Nat) : Int) := by
    have h1 : (n ||| m) &&& (n &&& m) = n &&& m := Nat.eq_of_testBit_eq fun t => by
      rw [Nat.testBit_and,Nat.testBit_or,Nat.testBit_and]; cases n.testBit t <;> cases m.testBit t <;> rfl
    have h2 : n &&& m ≤ n ||| m := by rw [← h1]; exact Nat.and_le_left
    rw [h1,Int.ofNat_sub h2,← or_nat]; rfl
  rw [e,bit_nat,sub_and,Nat.testBit_or,Nat.testBit_and]
  cases n.testBit t <;> cases m.testBit t <;> rfl
theorem bit_xor {x y : Int} (hx : 0 ≤ x) (hy : 0 ≤ y) (t : Nat) : bit (Builtin.bitXor x y) t = (bit x t ^^ bit y t) := by
  obtain ⟨n,rfl⟩ := Int.eq_ofNat_of_zero_le hx
  obtain ⟨m,rfl⟩ := Int.eq_ofNat_of_zero_le hy
  exact bit_xor_nat n m t
theorem xor_mk {N : Nat} {p q : Nat → Bool} : Builtin.bitXor (mk N p) (mk N q) = mk N (fun t => p t ^^ q t) := mk_of fun t => by
  rw [bit_xor (mk_nonneg ..) (mk_nonneg ..),bit_mk,bit_mk]; cases decide (t < N) <;> simp
theorem bit_upto {X : Int} (h0 : 0 ≤ X) (hX : X ≠ 0) : ∃ a,bit X a = true ∧ (∀ t,t < a → bit X t = false) ∧ ∀ t,bit (Builtin.bitXor X (X - 1)) t = decide (t ≤ a) := by
  obtain ⟨n,rfl⟩ := Int.eq_ofNat_of_zero_le h0
  have hn : n ≠ 0 := by rintro rfl; exact hX rfl
  obtain ⟨a,m,e⟩ := low_split n hn
  have hlt : 2 ^ a < 2 ^ (a + 1) := Nat.pow_lt_pow_of_lt (by decide) (Nat.lt_succ_self a)
  have hp : 0 < 2 ^ a := Nat.two_pow_pos a
  refine ⟨a,by rw [bit_nat,e,low_bit]; simp,fun t ht => by rw [bit_nat,e,low_bit,low_zero (Nat.le_of_lt ht),decide_eq_false (Nat.ne_of_gt ht)]; rfl,fun t => ?_⟩
  have e1 : ((n : Int) - 1) = ((n - 1 : Nat) : Int) := cast_sub (Nat.pos_of_ne_zero hn)
  have e2 : n - 1 = 2 ^ (a + 1) * m + (2 ^ a - 1) := (congrArg (· - 1) e).trans (mul_pred hp).symm
  rw [e1,bit_xor_nat,e2,e,low_bit,Nat.testBit_two_pow_mul_add _ (sub_lt' hlt : 2 ^ a - 1 < 2 ^ (a + 1)),Nat.testBit_two_pow_sub_one,Nat.testBit_two_pow_mul]
  by_cases h : t < a + 1
  · rw [if_pos h,decide_eq_false (Nat.not_le_of_lt h),decide_eq_true (Nat.le_of_lt_succ h)]
    by_cases q : a = t
    · subst q; simp
    · rw [decide_eq_false q,decide_eq_true (Nat.lt_of_le_of_ne (Nat.le_of_lt_succ h) fun z => q z.symm)]; rfl
  · rw [if_neg h,decide_eq_true (Nat.le_of_not_lt h),decide_eq_false (fun z : a = t => h (z ▸ Nat.lt_succ_self a)),decide_eq_false (fun z : t ≤ a => h (Nat.lt_succ_of_le z))]; simp
noncomputable def Smear (M x : Int) (k : Nat) : Prop := 0 ≤ x ∧ ∀ t,bit x t = (List.range k).any fun j => bit M (t + 1 + j)
theorem smear_start {M : Int} (h : 0 ≤ M) : Smear M (M.fdiv (2 ^ 1)) 1 := by
  obtain ⟨n,rfl⟩ := Int.eq_ofNat_of_zero_le h
  refine ⟨?_,fun t => by rw [bit_shr h]; simp [List.range_succ]⟩
  rw [show (2 : Int) ^ 1 = ((2 : Nat) : Int) from rfl,Int.fdiv_eq_ediv_of_nonneg _ (Int.natCast_nonneg _)]
  exact Int.natCast_nonneg (n / 2)
theorem smear_step {M x : Int} {k : Nat} (h : Smear M x k) : Smear M (Builtin.bitOr x (x.fdiv (2 ^ k))) (k + k) := by
  obtain ⟨h0,h1⟩ := h
  have hb : ∀ t,bit (Builtin.bitOr x (x.fdiv (2 ^ k))) t = (List.range (k + k)).any fun j => bit M (t + 1 + j) := fun t => by
    rw [bit_or,bit_shr h0,h1,h1,List.range_add,List.any_append,List.any_map]
    congr 1
    congr 1
    funext j
    show bit M (t + k + 1 + j) = bit M (t + 1 + (k + j))
    rw [Nat.add_right_comm t k 1,Nat.add_assoc]
  obtain ⟨n,rfl⟩ := Int.eq_ofNat_of_zero_le h0
  refine ⟨?_,hb⟩
  obtain ⟨m,hm⟩ : ∃ m : Nat,((n : Int)).fdiv (2 ^ k) = m := ⟨n / 2 ^ k,by
    rw [show (2 : Int) ^ k = ((2 ^ k : Nat) : Int) by simp,Int.fdiv_eq_ediv_of_nonneg _ (Int.natCast_nonneg _)]; rfl⟩
  rw [hm,or_nat]; exact Int.natCast_nonneg _
noncomputable def cut (stop : Nat → Bool) : List Nat → List Nat
  | [] => []
  | t :: r => match stop t with
    | true => [t]
    | false => t :: cut stop r
theorem cut_yes {stop : Nat → Bool} {t : Nat} {r : List Nat} (h : stop t = true) : cut stop (t :: r) = [t] := by
  show (match stop t with | true => [t] | false => t :: cut stop r) = _
  rw [h]
theorem cut_no {stop : Nat → Bool} {t : Nat} {r : List Nat} (h : stop t = false) : cut stop (t :: r) = t :: cut stop r := by
  show (match stop t with | true => [t] | false => t :: cut stop r) = _
  rw [h]
theorem cut_up (stop : Nat → Bool) (t : Nat) : ∀ {l : List Nat},l.Pairwise (· < ·) → (t ∈ cut stop l ↔ t ∈ l ∧ ∀ u ∈ l,stop u = true → t ≤ u)
  | [],_ => ⟨nofun,fun q => nomatch q.1⟩
  | x :: r,hs => by
    have hs' := List.pairwise_cons.mp hs
    cases hx : stop x with
    | true =>
      rw [cut_yes hx]
      refine ⟨fun q => ?_,fun ⟨q,z⟩ => ?_⟩
      · rw [List.mem_singleton] at q; subst q
        exact ⟨List.mem_cons_self,fun u hu _ => (List.mem_cons.mp hu).elim (fun e => Nat.le_of_eq e.symm) fun e => Nat.le_of_lt (hs'.1 u e)⟩
      · have := z x List.mem_cons_self hx
        rcases List.mem_cons.mp q with e | e
        · subst e; exact List.mem_singleton.mpr rfl
        · exact absurd (hs'.1 t e) (Nat.not_lt_of_le this)
    | false =>
      rw [cut_no hx,List.mem_cons,cut_up stop t hs'.2,List.mem_cons]
      refine ⟨fun q => ?_,fun ⟨q,z⟩ => ?_⟩
      · rcases q with rfl | ⟨a,c⟩
        · exact ⟨.inl rfl,fun u hu _ => (List.mem_cons.mp hu).elim (fun e => Nat.le_of_eq e.symm) fun e => Nat.le_of_lt (hs'.1 u e)⟩
        · exact ⟨.inr a,fun u hu hu' => (List.mem_cons.mp hu).elim (fun e => by rw [e,hx] at hu'; cases hu') fun e => c u e hu'⟩
      · exact q.imp id fun e => ⟨e,fun u hu => z u (List.mem_cons_of_mem _ hu)⟩
theorem cut_down (stop : Nat → Bool) (t : Nat) : ∀ {l : List Nat},l.Pairwise (· > ·) → (t ∈ cut stop l ↔ t ∈ l ∧ ∀ u ∈ l,stop u = true → u ≤ t)
  | [],_ => ⟨nofun,fun q => nomatch q.1⟩
  | x :: r,hs => by
    have hs' := List.pairwise_cons.mp hs
    cases hx : stop x with
    | true =>
      rw [cut_yes hx]
      refine ⟨fun q => ?_,fun ⟨q,z⟩ => ?_⟩
      · rw [List.mem_singleton] at q; subst q
        exact ⟨List.mem_cons_self,fun u hu _ => (List.mem_cons.mp hu).elim (fun e => Nat.le_of_eq e) fun e => Nat.le_of_lt (hs'.1 u e)⟩
      · have := z x List.mem_cons_self hx
        rcases List.mem_cons.mp q with e | e
        · subst e; exact List.mem_singleton.mpr rfl
        · exact absurd (hs'.1 t e) (Nat.not_lt_of_le this)
    | false =>
      rw [cut_no hx,List.mem_cons,cut_down stop t hs'.2,List.mem_cons]
      refine ⟨fun q => ?_,fun ⟨q,z⟩ => ?_⟩
      · rcases q with rfl | ⟨a,c⟩
        · exact ⟨.inl rfl,fun u hu _ => (List.mem_cons.mp hu).elim (fun e => Nat.le_of_eq e) fun e => Nat.le_of_lt (hs'.1 u e)⟩
        · exact ⟨.inr a,fun u hu hu' => (List.mem_cons.mp hu).elim (fun e => by rw [e,hx] at hu'; cases hu') fun e => c u e hu'⟩
      · exact q.imp id fun e => ⟨e,fun u hu => z u (List.mem_cons_of_mem _ hu)⟩
theorem cut_sub {stop : Nat → Bool} {t : Nat} : ∀ {l : List Nat},t ∈ cut stop l → t ∈ l
  | x :: r,h => by
    unfold cut at h
    split at h
    · rw [List.mem_singleton] at h; subst h; exact List.mem_cons_self
    · rcases List.mem_cons.mp h with e | e
      · subst e; exact List.mem_cons_self
      · exact List.mem_cons_of_mem _ (cut_sub e)
noncomputable def memN (t : Nat) (l : List Nat) : Bool := l.any (Nat.beq t)
theorem memN_iff {t : Nat} {l : List Nat} : memN t l = true ↔ t ∈ l := by
  unfold memN
  rw [List.any_eq_true]
  exact ⟨fun ⟨x,h,e⟩ => Nat.eq_of_beq_eq_true e ▸ h,fun h => ⟨t,h,Nat.beq_refl t⟩⟩
theorem memN_eq (t : Nat) (l : List Nat) : memN t l = l.contains t := by rw [Bool.eq_iff_iff,memN_iff,List.contains_iff_mem]
noncomputable def allN (p : Nat → Bool) (l : List Nat) : Bool := l.all p
theorem allN_of {p : Nat → Bool} {l : List Nat} (h : allN p l = true) : ∀ t ∈ l,p t = true := List.all_eq_true.mp h
noncomputable def belowN (p : Nat → Bool) : Nat → Bool
  | 0 => true
  | k + 1 => p k && belowN p k
theorem belowN_of {p : Nat → Bool} : ∀ {k : Nat},belowN p k = true → ∀ t,t < k → p t = true
  | k + 1,h,t,ht => by
    obtain ⟨hx,h⟩ := Bool.and_eq_true_iff.mp h
    rcases Nat.lt_or_eq_of_le (Nat.le_of_lt_succ ht) with e | e
    · exact belowN_of h t e
    · subst e; exact hx
noncomputable def sortedBy (lt : Nat → Nat → Bool) : List Nat → Bool
  | [] => true
  | x :: r => r.all (lt x) && sortedBy lt r
theorem sortedBy_of {lt : Nat → Nat → Bool} : ∀ {l : List Nat},sortedBy lt l = true → l.Pairwise (fun a b => lt a b = true)
  | [],_ => .nil
  | x :: r,h => by
    obtain ⟨hx,h⟩ := Bool.and_eq_true_iff.mp h
    exact .cons (List.all_eq_true.mp hx) (sortedBy_of h)
noncomputable def growing (d : Nat) : Bool := match d with
  | 0 | 1 | 4 | 7 => true
  | _ => false
noncomputable def opp (d : Nat) : Nat := match d with
  | 0 => 2
  | 1 => 3
  | 2 => 0
  | 3 => 1
  | 4 => 6
  | 5 => 7
  | 6 => 4
  | _ => 5
noncomputable def tillN (u : Nat) : List Nat → List Nat
  | [] => []
  | x :: r => match Nat.beq x u with
    | true => []
    | false => x :: tillN u r
theorem till_yes {u x : Nat} {r : List Nat} (h : Nat.beq x u = true) : tillN u (x :: r) = [] := by
  show (match Nat.beq x u with | true => [] | false => x :: tillN u r) = _
  rw [h]
theorem till_no {u x : Nat} {r : List Nat} (h : Nat.beq x u = false) : tillN u (x :: r) = x :: tillN u r := by
  show (match Nat.beq x u with | true => [] | false => x :: tillN u r) = _
  rw [h]
noncomputable def crossI (fs k q t : Nat) : Bool := decide ((fileOf fs t - fileOf fs k) * (rankOf fs q - rankOf fs k) = (rankOf fs t - rankOf fs k) * (fileOf fs q - fileOf fs k))
noncomputable def beqB (a b : Bool) : Bool := match a,b with
  | true,true | false,false => true
  | _,_ => false
theorem beqB_of {a b : Bool} (h : beqB a b = true) : a = b := by cases a <;> cases b <;> first | rfl | cases h
noncomputable def raysOf (fs rs q : Nat) : List Nat := rayL fs rs 0 q ++ (rayL fs rs 1 q ++ (rayL fs rs 2 q ++ (rayL fs rs 3 q ++ (rayL fs rs 4 q ++ (rayL fs rs 5 q ++ (rayL fs rs 6 q ++ rayL fs rs 7 q))))))
noncomputable def pawnC (fs s q t : Nat) : Bool := match s with
  | 0 => Nat.beq (q + fs + 1) t && Nat.blt (q % fs + 1) fs || Nat.beq (q + fs) (t + 1) && Nat.blt 0 (q % fs)
  | _ => Nat.beq (q + 1) (t + fs) && Nat.blt (q % fs + 1) fs || Nat.beq q (t + fs + 1) && Nat.blt 0 (q % fs)
noncomputable def chk1 (fs rs q : Nat) : Bool :=
  allN (fun t => Nat.blt t (fs * rs)) (raysOf fs rs q) && allN (fun t => Nat.blt t (fs * rs)) (hopsL fs rs q waysL) && allN (fun t => Nat.blt t (fs * rs)) (hopsL fs rs q jumpsL) && allN (fun t => Nat.blt t (fs * rs)) (hopsL fs rs q (pawnL 0)) && allN (fun t => Nat.blt t (fs * rs)) (hopsL fs rs q (pawnL 1)) &&
  belowN (fun d => match growing d with
    | true => sortedBy (fun a b => Nat.blt a b) (rayL fs rs d q)
    | false => sortedBy (fun a b => Nat.blt b a) (rayL fs rs d q)) 8 &&
  sortedBy (fun a b => !Nat.beq a b) (raysOf fs rs q) && sortedBy (fun a b => !Nat.beq a b) (hopsL fs rs q waysL) && sortedBy (fun a b => !Nat.beq a b) (hopsL fs rs q jumpsL) && sortedBy (fun a b => !Nat.beq a b) (hopsL fs rs q (pawnL 0)) && sortedBy (fun a b => !Nat.beq a b) (hopsL fs rs q (pawnL 1)) &&
  belowN (fun t => beqB (memN t (hopsL fs rs q (pawnL 0))) (pawnC fs 0 q t) && beqB (memN t (hopsL fs rs q (pawnL 1))) (pawnC fs 1 q t)) (fs * rs)
noncomputable def chk2 (fs rs k : Nat) : Bool := belowN (fun d => allN (fun u => belowN (fun d' => beqB (memN u (rayL fs rs d' k)) (Nat.beq d' d)) 8 && belowN (fun t =>
  beqB (memN t (rayL fs rs d k) && memN t (rayL fs rs (opp d) u)) (memN t (tillN u (rayL fs rs d k))) && beqB (memN t (rayL fs rs d k) || memN t (rayL fs rs (opp d) k) || Nat.beq t k) (crossI fs k u t)) (fs * rs)) (rayL fs rs d k)) 8
noncomputable def chkAll (fs rs : Nat) : Bool := belowN (fun q => chk1 fs rs q && chk2 fs rs q) (fs * rs)
noncomputable def Dim (fs rs : Nat) : Prop := (2 ≤ fs ∧ fs ≤ 5) ∧ (3 ≤ rs ∧ rs ≤ 6)
theorem chk_2_3 : chkAll 2 3 = true := by decide +kernel
theorem chk_2_4 : chkAll 2 4 = true := by decide +kernel
theorem chk_2_5 : chkAll 2 5 = true := by decide +kernel
theorem chk_2_6 : chkAll 2 6 = true := by decide +kernel
theorem chk_3_3 : chkAll 3 3 = true := by decide +kernel
theorem chk_3_4 : chkAll 3 4 = true := by decide +kernel
theorem chk_3_5 : chkAll 3 5 = true := by decide +kernel
theorem chk_3_6 : chkAll 3 6 = true := by decide +kernel
theorem chk_4_3 : chkAll 4 3 = true := by decide +kernel
theorem chk_4_4 : chkAll 4 4 = true := by decide +kernel
theorem chk_4_5 : chkAll 4 5 = true := by decide +kernel
theorem chk_4_6 : chkAll 4 6 = true := by decide +kernel
theorem chk_5_3 : chkAll 5 3 = true := by decide +kernel
theorem chk_5_4 : chkAll 5 4 = true := by decide +kernel
theorem chk_5_5 : chkAll 5 5 = true := by decide +kernel
theorem chk_5_6 : chkAll 5 6 = true := by decide +kernel
theorem dim_cases {P : Nat → Nat → Prop} (h : ∀ f r,(f,r) ∈ [(2,3),(2,4),(2,5),(2,6),(3,3),(3,4),(3,5),(3,6),(4,3),(4,4),(4,5),(4,6),(5,3),(5,4),(5,5),(5,6)] → P f r) {fs rs : Nat} (hd : Dim fs rs) : P fs rs := by
  obtain ⟨⟨a,b⟩,c,d⟩ := hd
  apply h
  rcases (show fs = 2 ∨ fs = 3 ∨ fs = 4 ∨ fs = 5 by (first | lia | omega)) with rfl | rfl | rfl | rfl <;> rcases (show rs = 3 ∨ rs = 4 ∨ rs = 5 ∨ rs = 6 by (first | lia | omega)) with rfl | rfl | rfl | rfl <;> decide
theorem chk_of {fs rs : Nat} (hd : Dim fs rs) : chkAll fs rs = true := by
  obtain ⟨⟨a,b⟩,c,d⟩ := hd
  rcases (show fs = 2 ∨ fs = 3 ∨ fs = 4 ∨ fs = 5 by (first | lia | omega)) with rfl | rfl | rfl | rfl <;> rcases (show rs = 3 ∨ rs = 4 ∨ rs = 5 ∨ rs = 6 by (first | lia | omega)) with rfl | rfl | rfl | rfl
  · exact chk_2_3
  · exact chk_2_4
  · exact chk_2_5
  · exact chk_2_6
  · exact chk_3_3
  · exact chk_3_4
  · exact chk_3_5
  · exact chk_3_6
  · exact chk_4_3
  · exact chk_4_4
  · exact chk_4_5
  · exact chk_4_6
  · exact chk_5_3
  · exact chk_5_4
  · exact chk_5_5
  · exact chk_5_6
section
variable {fs rs : Nat} (hd : Dim fs rs)
include hd
theorem Dim.pos : 0 < fs := by obtain ⟨⟨a,b⟩,c,d⟩ := hd; (first | lia | omega)
theorem Dim.size : 6 ≤ fs * rs ∧ fs * rs ≤ 30 := by
  obtain ⟨⟨a,b⟩,c,d⟩ := hd
  exact ⟨Nat.mul_le_mul a c,Nat.mul_le_mul b d⟩
theorem Dim.le : fs * rs ≤ 64 := Nat.le_trans hd.size.2 (by decide)
theorem lt_all {q : Nat} (hq : q < fs * rs) : (∀ t ∈ raysOf fs rs q,t < fs * rs) ∧ (∀ t ∈ hopsL fs rs q waysL,t < fs * rs) ∧ (∀ t ∈ hopsL fs rs q jumpsL,t < fs * rs) ∧ (∀ t ∈ hopsL fs rs q (pawnL 0),t < fs * rs) ∧ (∀ t ∈ hopsL fs rs q (pawnL 1),t < fs * rs) := by
  have h := (Bool.and_eq_true_iff.mp (belowN_of (chk_of hd) q hq)).1
  unfold chk1 at h
  simp only [Bool.and_eq_true] at h
  obtain ⟨⟨⟨⟨⟨⟨⟨⟨⟨⟨⟨a,b⟩,c⟩,d⟩,e⟩,_⟩,_⟩,_⟩,_⟩,_⟩,_⟩,_⟩ := h
  exact ⟨fun t ht => Nat.le_of_ble_eq_true (allN_of a t ht),fun t ht => Nat.le_of_ble_eq_true (allN_of b t ht),fun t ht => Nat.le_of_ble_eq_true (allN_of c t ht),fun t ht => Nat.le_of_ble_eq_true (allN_of d t ht),fun t ht => Nat.le_of_ble_eq_true (allN_of e t ht)⟩
theorem nodup_all {q : Nat} (hq : q < fs * rs) : (raysOf fs rs q).Nodup ∧ (hopsL fs rs q waysL).Nodup ∧ (hopsL fs rs q jumpsL).Nodup ∧ (hopsL fs rs q (pawnL 0)).Nodup ∧ (hopsL fs rs q (pawnL 1)).Nodup := by
  have h := (Bool.and_eq_true_iff.mp (belowN_of (chk_of hd) q hq)).1
  unfold chk1 at h
  simp only [Bool.and_eq_true] at h
  obtain ⟨⟨⟨⟨⟨⟨_,a⟩,b⟩,c⟩,d⟩,e⟩,_⟩ := h
  have key : ∀ {l : List Nat},sortedBy (fun a b => !Nat.beq a b) l = true → l.Nodup := fun h => (sortedBy_of h).imp fun {a b} z e => by subst e; rw [Nat.beq_refl] at z; cases z
  exact ⟨key a,key b,key c,key d,key e⟩
theorem ray_up {q d : Nat} (hq : q < fs * rs) (hd8 : d < 8) (hg : growing d = true) : (rayL fs rs d q).Pairwise (· < ·) := by
  have h := (Bool.and_eq_true_iff.mp (belowN_of (chk_of hd) q hq)).1
  unfold chk1 at h
  simp only [Bool.and_eq_true] at h
  obtain ⟨⟨⟨⟨⟨⟨⟨_,a⟩,_⟩,_⟩,_⟩,_⟩,_⟩,_⟩ := h
  have := belowN_of a d hd8
  rw [hg] at this
  exact (sortedBy_of this).imp fun z => Nat.le_of_ble_eq_true z
theorem ray_down {q d : Nat} (hq : q < fs * rs) (hd8 : d < 8) (hg : growing d = false) : (rayL fs rs d q).Pairwise (· > ·) := by
  have h := (Bool.and_eq_true_iff.mp (belowN_of (chk_of hd) q hq)).1
  unfold chk1 at h
  simp only [Bool.and_eq_true] at h
  obtain ⟨⟨⟨⟨⟨⟨⟨_,a⟩,_⟩,_⟩,_⟩,_⟩,_⟩,_⟩ := h
  have := belowN_of a d hd8
  rw [hg] at this
  exact (sortedBy_of this).imp fun z => Nat.le_of_ble_eq_true z
theorem pawn_cond {q t s : Nat} (hq : q < fs * rs) (ht : t < fs * rs) (hs : s < 2) : (hopsL fs rs q (pawnL s)).contains t = pawnC fs s q t := by
  have h := (Bool.and_eq_true_iff.mp (belowN_of (chk_of hd) q hq)).1
  unfold chk1 at h
  simp only [Bool.and_eq_true] at h
  have h := belowN_of h.2 t ht
  obtain ⟨a,b⟩ := Bool.and_eq_true_iff.mp h
  rw [← memN_eq]
  match s,hs with
  | 0,_ => exact beqB_of a
  | 1,_ => exact beqB_of b
theorem chk2_of {k d u : Nat} (hk : k < fs * rs) (hd8 : d < 8) (hu : u ∈ rayL fs rs d k) : (∀ d',d' < 8 → (rayL fs rs d' k).contains u = Nat.beq d' d) ∧
    ∀ t,t < fs * rs → ((rayL fs rs d k).contains t && (rayL fs rs (opp d) u).contains t) = (tillN u (rayL fs rs d k)).contains t ∧ ((rayL fs rs d k).contains t || (rayL fs rs (opp d) k).contains t || Nat.beq t k) = crossI fs k u t := by
  have h := (Bool.and_eq_true_iff.mp (belowN_of (chk_of hd) k hk)).2
  have h := allN_of (belowN_of h d hd8) u hu
  obtain ⟨a,b⟩ := Bool.and_eq_true_iff.mp h
  refine ⟨fun d' hd' => by rw [← memN_eq]; exact beqB_of (belowN_of a d' hd'),fun t ht => ?_⟩
  obtain ⟨x,y⟩ := Bool.and_eq_true_iff.mp (belowN_of b t ht)
  simp only [← memN_eq]
  exact ⟨beqB_of x,beqB_of y⟩
theorem ray_sub {q d t : Nat} (hd8 : d < 8) (h : t ∈ rayL fs rs d q) : t ∈ raysOf fs rs q := by
  unfold raysOf
  match d,hd8 with
  | 0,_ | 1,_ | 2,_ | 3,_ | 4,_ | 5,_ | 6,_ | 7,_ => simp [h]
theorem ray_lt {q d t : Nat} (hq : q < fs * rs) (hd8 : d < 8) (h : t ∈ rayL fs rs d q) : t < fs * rs := (lt_all hd hq).1 t (ray_sub hd hd8 h)
end
theorem shr_ok {a b : Int} {c : Nat} (hb : b = c) : binInt .RShift a b = some (a.fdiv (2 ^ c)) := by
  subst hb; show (if (0 : Int) ≤ c then some (a.fdiv (2 ^ (c : Int).toNat)) else none) = _; rw [if_pos (Int.natCast_nonneg c)]; rfl
theorem shl_ok {a b : Int} {c : Nat} (hb : b = c) (hc : c ≤ 1000) (ha : small a = true) : binInt .LShift a b = some (a * 2 ^ c) := by
  subst hb
  show (if (decide ((0 : Int) ≤ c) && decide ((c : Int) ≤ 1000) && small a) = true then _ else _) = _
  rw [if_pos (by rw [decide_eq_true (Int.natCast_nonneg c),decide_eq_true (show (c : Int) ≤ 1000 from Int.ofNat_le.mpr hc),ha]; rfl)]; rfl
theorem mul_ok {a b : Int} (ha : small a = true) : binInt .Mult a b = some (a * b) := by
  show (if (small a || small b) = true then _ else _) = _
  rw [ha]; rfl
theorem mulr_ok {a b : Int} (hb : small b = true) : binInt .Mult a b = some (a * b) := by
  show (if (small a || small b) = true then _ else _) = _
  rw [hb,Bool.or_true]; rfl
theorem small_nat {a : Nat} (h : a < 2 ^ 64) : small (a : Int) = true := decide_eq_true h
theorem small_lt {a : Int} (h : -1000000 < a ∧ a < 1000000) : small a = true := decide_eq_true (Nat.lt_trans (abs_lt (n := 1000000) h.1 h.2) (by decide))
theorem div_ok {a b : Int} {x y : Nat} (ha : a = x) (hb : b = y) (h0 : 0 < y) (h1 : y < 2 ^ 64) : binInt .FloorDiv a b = some ((x / y : Nat) : Int) := by
  subst ha hb
  show (if (decide ((y : Int) ≠ 0) && small y) = true then _ else _) = _
  rw [if_pos (by rw [decide_eq_true (show (y : Int) ≠ 0 from Int.ofNat_ne_zero.mpr (Nat.ne_of_gt h0)),small_nat h1]; rfl),Int.fdiv_eq_ediv_of_nonneg _ (Int.natCast_nonneg _)]; rfl
theorem mod_ok {a b : Int} {x y : Nat} (ha : a = x) (hb : b = y) (h0 : 0 < y) : binInt .Mod a b = some ((x % y : Nat) : Int) := by
  subst ha hb
  show (if (y : Int) ≠ 0 then _ else _) = _
  rw [if_pos (show (y : Int) ≠ 0 from Int.ofNat_ne_zero.mpr (Nat.ne_of_gt h0)),Int.fmod_eq_emod_of_nonneg _ (Int.natCast_nonneg _)]; rfl
noncomputable abbrev vN (t : Nat) : V := .int (t : Int)
theorem range_one (a m : Nat) : (rangeList (a : Int) ((a + m : Nat) : Int) 1).map V.int = (List.range' a m).map vN := by
  unfold rangeList
  rw [if_pos (by decide)]
  have e : (((a + m : Nat) : Int) - a + 1 - 1) / 1 = (m : Int) := by rw [Int.ediv_one,Int.add_sub_cancel,Int.natCast_add,Int.add_comm (a : Int),Int.add_sub_cancel]
  rw [e,Int.toNat_natCast,List.map_map,List.range'_eq_map_range,List.map_map]
  refine List.map_congr_left fun i _ => ?_
  show V.int ((a : Int) + (i : Int) * 1) = V.int ((a + i : Nat) : Int)
  rw [Int.mul_one]; rfl
theorem range_ok {A B : Int} {a m : Nat} (hA : A = a) (hB : B = (a + m : Nat)) : (rangeList A B 1).map V.int = (List.range' a m).map vN := by subst hA hB; exact range_one a m
theorem range_zero {B : Int} {m : Nat} (hB : B = m) : (rangeList 0 B 1).map V.int = (List.range m).map vN := by
  rw [List.range_eq_range']; exact range_ok rfl (by rw [hB,Nat.zero_add])
theorem rangeOk_of {A B : Int} (h : A.natAbs ≤ 100000 ∧ B.natAbs ≤ 100000) : rangeOk A B 1 = true := by
  unfold rangeOk; rw [decide_eq_true h.1,decide_eq_true h.2]; rfl
theorem forN_wp {P : Par} {F : Call} {i : Nat} {b : MSs} {ok : H → Bool} (J : List Nat → Sig → H → Prop) (R : Fl → Sig → H → Prop)
    (step : ∀ x xs σ h,J (x :: xs) σ h → OkQ (ok h) (OkQ (Nat.blt i σ.length) (wSs P F b (σ.set i (some (vN x))) h (kRnd (J xs) R)))) (fin : ∀ σ h,J [] σ h → ok h = true ∧ R .next σ h)
    {xs : List V} {L : List Nat} (e : xs = L.map vN) {σ : Sig} {h : H} (j : J L σ h) : LoopQ (forL (fun x σ h => if i < σ.length then exs P F b (σ.set i (some x)) h else none) ok xs σ h) R := by
  subst e
  refine LoopQ.of <| forL_J (fun vs σ h => ∃ L : List Nat,vs = L.map vN ∧ J L σ h) R (fun x xs σ h j => ?_) (fun σ h j => ?_) _ σ h ⟨L,rfl,j⟩
  · obtain ⟨L,e,j⟩ := j
    cases L with
    | nil => cases e
    | cons y L =>
      obtain ⟨rfl,rfl⟩ := List.cons.inj e
      obtain ⟨a,c,w⟩ := step y L σ h j
      obtain ⟨fl,σ',h',e,q⟩ := wSs_sound _ w
      refine ⟨a,fl,σ',h',by rw [if_pos (show i < σ.length from Nat.le_of_ble_eq_true c),e],?_⟩
      cases fl <;> first | exact ⟨L,rfl,q⟩ | exact q
  · obtain ⟨L,e,j⟩ := j
    cases L with
    | nil => exact fin σ h j
    | cons y L => cases e
noncomputable def Gives (P : Par) (n f : Nat) (args : List V) (h : H) (v : V) : Prop := callN P fnT n f args h = some (v,h)
theorem gives_of {P : Par} {n f : Nat} {args : List V} {h : H} {v : V} (m : Meets P n f args h fun v' h' => v' = v ∧ h' = h) : callN P fnT n f args h = some (v,h) := by
  obtain ⟨v',h',e,rfl,rfl⟩ := m; exact e
section
variable {C : Nat → Option O} {h : H} {g : V} {fs rs : Nat} {hd : Bool}
theorem IntL.at {v : V} {l : List Int} (x : IntL C h v l) {i : Int} {k : Nat} (hi : i = k) (hk : k ≤ 1000000) {r : Int} (hr : l[k]? = some r) : getSub C h v (.int i) = some (.int r) := by
  subst hi; exact x.sub (Int.natCast_nonneg k) (Int.ofNat_le.mpr hk) hr
theorem tab_at {f : Nat → List Nat} (hf : ∀ q,q < fs * rs → ∀ t ∈ f q,t < fs * rs) {q : Nat} (hq : q < fs * rs) : (tabOf fs rs f)[q]? = some (mk (fs * rs) fun t => (f q).contains t) := by
  unfold tabOf; rw [List.getElem?_map,List.getElem?_range hq,Option.map_some,mask_mk (hf q hq)]
theorem small_size (hd : Dim fs rs) {q : Nat} (hq : q < fs * rs) : q ≤ 1000000 := big hq hd.size.2
variable (G : GeoAt C h g fs rs hd) (D : Dim fs rs)
include G D
theorem geo_kn : ∃ v,getAttr h g 10 = some v ∧ ∀ (x : Int) (q : Nat),x = q → q < fs * rs → getSub C h v (.int x) = some (.int (mk (fs * rs) fun t => (hopsL fs rs q jumpsL).contains t)) := by
  obtain ⟨v,a,b⟩ := G.knight
  exact ⟨v,a,fun x q hx hq => b.at hx (small_size D hq) (tab_at (fun q hq => (lt_all D hq).2.2.1) hq)⟩
theorem geo_kg : ∃ v,getAttr h g 9 = some v ∧ ∀ (x : Int) (q : Nat),x = q → q < fs * rs → getSub C h v (.int x) = some (.int (mk (fs * rs) fun t => (hopsL fs rs q waysL).contains t)) := by
  obtain ⟨v,a,b⟩ := G.king
  exact ⟨v,a,fun x q hx hq => b.at hx (small_size D hq) (tab_at (fun q hq => (lt_all D hq).2.1) hq)⟩
theorem geo_pw : ∃ v,getAttr h g 11 = some v ∧ ∀ (y : Int) (s : Nat),y = s → s < 2 → ∃ r,getSub C h v (.int y) = some r ∧ ∀ (x : Int) (q : Nat),x = q → q < fs * rs → getSub C h r (.int x) = some (.int (mk (fs * rs) fun t => (hopsL fs rs q (pawnL s)).contains t)) := by
  obtain ⟨v,p0,p1,a,b,c,d⟩ := G.pawn
  refine ⟨v,a,fun y s hy hs => ?_⟩
  subst hy
  match s,hs with
  | 0,_ => exact ⟨p0,sub_lst b (by decide) (by decide) rfl,fun x q hx hq => c.at hx (small_size D hq) (tab_at (fun q hq => (lt_all D hq).2.2.2.1) hq)⟩
  | 1,_ => exact ⟨p1,sub_lst b (by decide) (by decide) rfl,fun x q hx hq => d.at hx (small_size D hq) (tab_at (fun q hq => (lt_all D hq).2.2.2.2) hq)⟩
theorem geo_ry : ∃ v,getAttr h g 8 = some v ∧ ∀ (y : Int) (d : Nat),y = d → d < 8 → ∃ r,getSub C h v (.int y) = some r ∧ ∀ (x : Int) (q : Nat),x = q → q < fs * rs → getSub C h r (.int x) = some (.int (mk (fs * rs) fun t => (rayL fs rs d q).contains t)) := by
  obtain ⟨v,rows,a,b,c⟩ := G.rays
  refine ⟨v,a,fun y d hy hd => ?_⟩
  subst hy
  obtain ⟨r,e,l⟩ := c d hd
  exact ⟨r,sub_lst b (Int.natCast_nonneg d) (Int.ofNat_le.mpr (big_lt hd)) e,fun x q hx hq => l.at hx (small_size D hq) (tab_at (fun q hq t ht => ray_lt D hq hd ht) hq)⟩
theorem geo_fl : ∃ v,getAttr h g 6 = some v ∧ ∀ (x : Int) (f : Nat),x = f → f < fs → getSub C h v (.int x) = some (.int (mk (fs * rs) fun t => Nat.beq (t % fs) f)) := by
  obtain ⟨v,a,b⟩ := G.fm
  refine ⟨v,a,fun x f hx hf => b.at hx (big_lt hf (Nat.le_trans D.1.2 (by decide))) ?_⟩
  unfold fileM; rw [List.getElem?_map,List.getElem?_range hf]; rfl
theorem geo_rk : ∃ v,getAttr h g 7 = some v ∧ ∀ (x : Int) (r : Nat),x = r → r < rs → getSub C h v (.int x) = some (.int (mk (fs * rs) fun t => Nat.beq (t / fs) r)) := by
  obtain ⟨v,a,b⟩ := G.rm
  refine ⟨v,a,fun x r hx hr => b.at hx (big_lt hr (Nat.le_trans D.2.2 (by decide))) ?_⟩
  unfold rankM; rw [List.getElem?_map,List.getElem?_range hr]; rfl
omit D in
theorem geo_fu : getAttr h g 3 = some (.int (mk (fs * rs) fun _ => true)) := by rw [G.full,full_mk]
end
theorem callN_lvl {P : Par} {m n f : Nat} {args : List V} {h : H} (hm : f < m) (hn : f < n) : callN P fnT n f args h = callN P fnT m f args h := by
  rw [callN_eq P fnT args h f n hn,callN_eq P fnT args h f m hm]
noncomputable def lowP (k : Nat) : Prop := ∀ (sa : Nat) (zs : List Int) (h : H),callN (P0 sa zs) tabM 22 8 [.int (2 ^ k)] h = some (.int (.ofNat k),h)
theorem low_0 : lowP 0 := fun sa zs h => by kernel_rfl
theorem low_1 : lowP 1 := fun sa zs h => by kernel_rfl
theorem low_2 : lowP 2 := fun sa zs h => by kernel_rfl
theorem low_3 : lowP 3 := fun sa zs h => by kernel_rfl
theorem low_4 : lowP 4 := fun sa zs h => by kernel_rfl
theorem low_5 : lowP 5 := fun sa zs h => by kernel_rfl
theorem low_6 : lowP 6 := fun sa zs h => by kernel_rfl
theorem low_7 : lowP 7 := fun sa zs h => by kernel_rfl
theorem low_8 : lowP 8 := fun sa zs h => by kernel_rfl
theorem low_9 : lowP 9 := fun sa zs h => by kernel_rfl
theorem low_10 : lowP 10 := fun sa zs h => by kernel_rfl
theorem low_11 : lowP 11 := fun sa zs h => by kernel_rfl
theorem low_12 : lowP 12 := fun sa zs h => by kernel_rfl
theorem low_13 : lowP 13 := fun sa zs h => by kernel_rfl
theorem low_14 : lowP 14 := fun sa zs h => by kernel_rfl
theorem low_15 : lowP 15 := fun sa zs h => by kernel_rfl
theorem low_16 : lowP 16 := fun sa zs h => by kernel_rfl
theorem low_17 : lowP 17 := fun sa zs h => by kernel_rfl
theorem low_18 : lowP 18 := fun sa zs h => by kernel_rfl
theorem low_19 : lowP 19 := fun sa zs h => by kernel_rfl
theorem low_20 : lowP 20 := fun sa zs h => by kernel_rfl
theorem low_21 : lowP 21 := fun sa zs h => by kernel_rfl
theorem low_22 : lowP 22 := fun sa zs h => by kernel_rfl
theorem low_23 : lowP 23 := fun sa zs h => by kernel_rfl
theorem low_24 : lowP 24 := fun sa zs h => by kernel_rfl
theorem low_25 : lowP 25 := fun sa zs h => by kernel_rfl
theorem low_26 : lowP 26 := fun sa zs h => by kernel_rfl
theorem low_27 : lowP 27 := fun sa zs h => by kernel_rfl
theorem low_28 : lowP 28 := fun sa zs h => by kernel_rfl
theorem low_29 : lowP 29 := fun sa zs h => by kernel_rfl
theorem low_all : ∀ k,k < 30 → lowP k
  | 0,_ => low_0
  | 1,_ => low_1
  | 2,_ => low_2
  | 3,_ => low_3
  | 4,_ => low_4
  | 5,_ => low_5
  | 6,_ => low_6
  | 7,_ => low_7
  | 8,_ => low_8
  | 9,_ => low_9
  | 10,_ => low_10
  | 11,_ => low_11
  | 12,_ => low_12
  | 13,_ => low_13
  | 14,_ => low_14
  | 15,_ => low_15
  | 16,_ => low_16
  | 17,_ => low_17
  | 18,_ => low_18
  | 19,_ => low_19
  | 20,_ => low_20
  | 21,_ => low_21
  | 22,_ => low_22
  | 23,_ => low_23
  | 24,_ => low_24
  | 25,_ => low_25
  | 26,_ => low_26
  | 27,_ => low_27
  | 28,_ => low_28
  | 29,_ => low_29
  | k + 30,h => absurd h (Nat.not_lt_of_le (Nat.le_add_left 30 k))
noncomputable def growP (d : Nat) : Prop := ∀ (sa : Nat) (zs : List Int) (h : H),callN (P0 sa zs) tabM 22 15 [.int (.ofNat d)] h = some (.bool (growing d),h)
theorem grow_0 : growP 0 := fun sa zs h => by kernel_rfl
theorem grow_1 : growP 1 := fun sa zs h => by kernel_rfl
theorem grow_2 : growP 2 := fun sa zs h => by kernel_rfl
theorem grow_3 : growP 3 := fun sa zs h => by kernel_rfl
theorem grow_4 : growP 4 := fun sa zs h => by kernel_rfl
theorem grow_5 : growP 5 := fun sa zs h => by kernel_rfl
theorem grow_6 : growP 6 := fun sa zs h => by kernel_rfl
theorem grow_7 : growP 7 := fun sa zs h => by kernel_rfl
theorem grow_all : ∀ d,d < 8 → growP d
  | 0,_ => grow_0
  | 1,_ => grow_1
  | 2,_ => grow_2
  | 3,_ => grow_3
  | 4,_ => grow_4
  | 5,_ => grow_5
  | 6,_ => grow_6
  | 7,_ => grow_7
  | k + 8,h => absurd h (Nat.not_lt_of_le (Nat.le_add_left 8 k))
section
variable {sa : Nat} {zs : List Int} {n : Nat} {h : H}
theorem t8 (hn : 8 < n) {N k : Nat} (hN : N ≤ 30) (hk : k < N) : callN (P0 sa zs) fnT n 8 [.int (mk N fun t => Nat.beq k t)] h = some (vN k,h) := by
  rw [← pow_mk hk,callN_lvl (m := 22) (by decide) hn,← callM (Nat.le_refl 22)]
  exact low_all k (Nat.lt_of_lt_of_le hk hN) sa zs h
theorem t15 (hn : 15 < n) {x : Int} {d : Nat} (hx : x = d) (hd : d < 8) : callN (P0 sa zs) fnT n 15 [.int x] h = some (.bool (growing d),h) := by
  subst hx
  rw [callN_lvl (m := 22) (by decide) hn,← callM (Nat.le_refl 22)]
  exact grow_all d hd sa zs h
noncomputable def dirOf (fs rs a c : Nat) : Option Nat := (List.range 8).find? fun d => (rayL fs rs d a).contains c
noncomputable def dirI (o : Option Nat) : Int := match o with
  | some d => d
  | none => -1
theorem bitOf {X : Int} (h0 : 0 ≤ X) (c : Nat) : Builtin.bitAnd (X.fdiv (2 ^ c)) 1 ≠ 0 ↔ bit X c = true := by
  rw [low1,bit_shr h0,Nat.zero_add]
inductive J12a (h : H) (g : V) (fs : Nat) (rs : Nat) (x : Int) (y : Int) (a : Nat) (c : Nat) (L : List Nat) (σ : Sig) (h' : H) : Prop
  | mk  (c0 : ∃ o,σ = [some g,some (.int x),some (.int y),o]) (c1 : h' = h) (c2 : ∀ d ∈ L,d < 8) (c3 : L.find? (fun d => (rayL fs rs d a).contains c) = dirOf fs rs a c) : J12a h g fs rs x y a c L σ h'
section
variable {g : V} {fs rs : Nat} {hd : Bool} (G : GeoAt (P0 sa zs).C h g fs rs hd) (D : Dim fs rs)
include G D
theorem t12 (hn : 12 < n) {x y : Int} {a c : Nat} (hx : x = a) (hy : y = c) (ha : a < fs * rs) (hc : c < fs * rs) : callN (P0 sa zs) fnT n 12 [g,.int x,.int y] h = some (.int (dirI (dirOf fs rs a c)),h) := by
  obtain ⟨rv,ra,rr⟩ := geo_ry G D
  refine gives_of (call_wp m12 hn ⟨rfl,_,rfl,rfl,forN_wp (L := List.range 8) (J12a h g fs rs x y a c) _ (fun d L σ h' j => ?_) (fun σ h' j => ?_) rfl ⟨⟨_,rfl⟩,rfl,fun d hd => List.mem_range.mp hd,rfl⟩⟩)
  · obtain ⟨⟨o,rfl⟩,rfl,hl,hf⟩ := j
    obtain ⟨r,r1,r2⟩ := rr d d rfl (hl d List.mem_cons_self)
    have e := bitOf (mk_nonneg (fs * rs) fun t => (rayL fs rs d a).contains t) c
    rw [bit_mk,decide_eq_true hc,Bool.true_and] at e
    refine ⟨rfl,rfl,_,rfl,_,ra,_,rfl,_,r1,_,rfl,_,r2 x a hx ha,_,rfl,_,shr_ok hy,fun q => ⟨_,rfl,?_,rfl⟩,fun q => ⟨⟨_,rfl⟩,rfl,fun d hd => hl d (List.mem_cons_of_mem _ hd),?_⟩⟩
    · rw [List.find?_cons,e.mp q] at hf; rw [← hf]; rfl
    · rw [List.find?_cons,Bool.eq_false_iff.mpr fun z => e.mpr z q] at hf; exact hf
  · obtain ⟨⟨o,rfl⟩,rfl,hl,hf⟩ := j
    exact ⟨rfl,_,rfl,by rw [← hf]; rfl,rfl⟩
end
end
noncomputable def betw (fs rs a c t : Nat) : Bool := match dirOf fs rs a c with
  | some d => (rayL fs rs d a).contains t && (rayL fs rs (opp d) c).contains t
  | none => false
noncomputable def lineB (fs rs a c t : Nat) : Bool := match dirOf fs rs a c with
  | some d => (rayL fs rs d a).contains t || (rayL fs rs (opp d) a).contains t || Nat.beq a t
  | none => false
theorem dir_lt {fs rs a c d : Nat} (h : dirOf fs rs a c = some d) : d < 8 := List.mem_range.mp (List.mem_of_find?_eq_some h)
theorem opp_xor : ∀ {d : Nat},d < 8 → Builtin.bitXor (d : Int) (Int.ofNat 2) = (opp d : Nat)
  | 0,_ | 1,_ | 2,_ | 3,_ | 4,_ | 5,_ | 6,_ | 7,_ => rfl
theorem opp_lt : ∀ {d : Nat},d < 8 → opp d < 8
  | 0,_ | 1,_ | 2,_ | 3,_ | 4,_ | 5,_ | 6,_ | 7,_ => by decide
theorem small_le {fs rs q : Nat} (D : Dim fs rs) (hq : q < fs * rs) : q ≤ 1000 := Nat.le_trans (Nat.le_of_lt hq) (Nat.le_trans D.size.2 (by decide))
theorem one_mk {N a : Nat} (ha : a < N) : (Int.ofNat 1 : Int) * 2 ^ a = mk N fun t => Nat.beq a t := by rw [← pow_mk ha]; exact Int.one_mul _
section
variable {sa : Nat} {zs : List Int} {n : Nat} {h : H} {g : V} {fs rs : Nat} {hd : Bool} (G : GeoAt (P0 sa zs).C h g fs rs hd) (D : Dim fs rs)
include G D
theorem t13 (hn : 13 < n) {x y : Int} {a c : Nat} (hx : x = a) (hy : y = c) (ha : a < fs * rs) (hc : c < fs * rs) : callN (P0 sa zs) fnT n 13 [g,.int x,.int y] h = some (.int (mk (fs * rs) (betw fs rs a c)),h) := by
  obtain ⟨rv,ra,rr⟩ := geo_ry G D
  cases hdir : dirOf fs rs a c with
  | none =>
    have e : mk (fs * rs) (betw fs rs a c) = 0 := mk_eq_zero.mpr fun t _ => by unfold betw; rw [hdir]
    refine gives_of (call_wp m13 hn ⟨rfl,_,rfl,_,rfl,_,rfl,_,_,t12 G D (by decide) hx hy ha hc,rfl,_,rfl,fun _ => ⟨by rw [e]; rfl,rfl⟩,fun q => ?_⟩)
    rw [hdir] at q; exact tt q
  | some d =>
    have hd8 := dir_lt hdir
    obtain ⟨r,r1,r2⟩ := rr d d rfl hd8
    obtain ⟨o,o1,o2⟩ := rr _ (opp d) (opp_xor hd8) (opp_lt hd8)
    have e : mk (fs * rs) (betw fs rs a c) = mk (fs * rs) fun t => (rayL fs rs d a).contains t && (rayL fs rs (opp d) c).contains t := mk_congr fun t _ => by unfold betw; rw [hdir]
    have e12 := t12 (n := 13) G D (by decide) hx hy ha hc
    rw [hdir] at e12
    refine gives_of (call_wp m13 hn ⟨rfl,_,rfl,_,rfl,_,rfl,_,_,e12,rfl,_,rfl,fun q => ?_,fun _ => ⟨_,rfl,_,ra,_,rfl,_,r1,_,rfl,_,r2 x a hx ha,_,rfl,_,ra,_,rfl,_,o1,_,rfl,_,o2 y c hy hc,by rw [e,and_mk],rfl⟩⟩)
    exact absurd (of_decide_eq_true q) (Int.not_lt.mpr (Int.natCast_nonneg d))
theorem t14 (hn : 14 < n) {x y : Int} {a c : Nat} (hx : x = a) (hy : y = c) (ha : a < fs * rs) (hc : c < fs * rs) : callN (P0 sa zs) fnT n 14 [g,.int x,.int y] h = some (.int (mk (fs * rs) (lineB fs rs a c)),h) := by
  obtain ⟨rv,ra,rr⟩ := geo_ry G D
  cases hdir : dirOf fs rs a c with
  | none =>
    have e : mk (fs * rs) (lineB fs rs a c) = 0 := mk_eq_zero.mpr fun t _ => by unfold lineB; rw [hdir]
    refine gives_of (call_wp m14 hn ⟨rfl,_,rfl,_,rfl,_,rfl,_,_,t12 G D (by decide) hx hy ha hc,rfl,_,rfl,fun _ => ⟨by rw [e]; rfl,rfl⟩,fun q => ?_⟩)
    rw [hdir] at q; exact tt q
  | some d =>
    have hd8 := dir_lt hdir
    obtain ⟨r,r1,r2⟩ := rr d d rfl hd8
    obtain ⟨o,o1,o2⟩ := rr _ (opp d) (opp_xor hd8) (opp_lt hd8)
    have e : mk (fs * rs) (lineB fs rs a c) = mk (fs * rs) fun t => (rayL fs rs d a).contains t || (rayL fs rs (opp d) a).contains t || Nat.beq a t := mk_congr fun t _ => by unfold lineB; rw [hdir]
    have e12 := t12 (n := 14) G D (by decide) hx hy ha hc
    rw [hdir] at e12
    refine gives_of (call_wp m14 hn ⟨rfl,_,rfl,_,rfl,_,rfl,_,_,e12,rfl,_,rfl,fun q => ?_,fun _ => ⟨_,rfl,_,ra,_,rfl,_,r1,_,rfl,_,r2 x a hx ha,_,rfl,_,ra,_,rfl,_,o1,_,rfl,_,o2 x a hx ha,_,rfl,_,shl_ok hx (small_le D ha) rfl,by rw [e,or_mk,one_mk ha,or_mk],rfl⟩⟩)
    exact absurd (of_decide_eq_true q) (Int.not_lt.mpr (Int.natCast_nonneg d))
end
theorem cut_none {stop : Nat → Bool} : ∀ {l : List Nat},(∀ u ∈ l,stop u = false) → cut stop l = l
  | [],_ => rfl
  | x :: r,h => by
    rw [cut_no (h x List.mem_cons_self),cut_none fun u hu => h u (List.mem_cons_of_mem _ hu)]
section
variable {sa : Nat} {zs : List Int} {n : Nat} {h : H} {g : V} {fs rs : Nat} {hd : Bool} (G : GeoAt (P0 sa zs).C h g fs rs hd) (D : Dim fs rs)
include G D
theorem t23 (hn : 23 < n) {x y X : Int} {d q : Nat} {stop : Nat → Bool} (hx : x = d) (hy : y = q) (hd8 : d < 8) (hq : q < fs * rs) (hX : X = mk (fs * rs) stop) :
    callN (P0 sa zs) fnT n 23 [g,.int x,.int y,.int X] h = some (.int (mk (fs * rs) fun t => (cut stop (rayL fs rs d q)).contains t),h) := by
  subst hX
  obtain ⟨rv,ra,rr⟩ := geo_ry G D
  obtain ⟨r,r1,r2⟩ := rr x d hx hd8
  have r3 := r2 y q hy hq
  have lt := fun t ht => ray_lt (q := q) (t := t) D hq hd8 ht
  have hbit : ∀ t,bit (mk (fs * rs) fun t => (rayL fs rs d q).contains t) t = (rayL fs rs d q).contains t := fun t => by
    rw [bit_mk]
    cases z : (rayL fs rs d q).contains t with
    | false => simp
    | true => rw [decide_eq_true (lt t (List.contains_iff_mem.mp z))]; rfl
  have hcut : ∀ t,((decide (t < fs * rs)) && (cut stop (rayL fs rs d q)).contains t) = (cut stop (rayL fs rs d q)).contains t := fun t => by
    cases z : (cut stop (rayL fs rs d q)).contains t with
    | false => simp
    | true => rw [decide_eq_true (lt t (cut_sub (List.contains_iff_mem.mp z)))]; rfl
  have hM : ∀ t,bit (Builtin.bitAnd (mk (fs * rs) fun t => (rayL fs rs d q).contains t) (mk (fs * rs) stop)) t = ((rayL fs rs d q).contains t && stop t) := fun t => by
    rw [bit_and,hbit,bit_mk]
    cases z : (rayL fs rs d q).contains t with
    | false => rfl
    | true => rw [decide_eq_true (lt t (List.contains_iff_mem.mp z))]; rfl
  have hM0 : 0 ≤ Builtin.bitAnd (mk (fs * rs) fun t => (rayL fs rs d q).contains t) (mk (fs * rs) stop) := by rw [and_mk]; exact mk_nonneg ..
  have hMe : ∀ u,bit (Builtin.bitAnd (mk (fs * rs) fun t => (rayL fs rs d q).contains t) (mk (fs * rs) stop)) u = true ↔ u ∈ rayL fs rs d q ∧ stop u = true := fun u => by
    rw [hM,Bool.and_eq_true,List.contains_iff_mem]
  by_cases h0 : Builtin.bitAnd (mk (fs * rs) fun t => (rayL fs rs d q).contains t) (mk (fs * rs) stop) = 0
  · refine gives_of (call_wp m23 hn ⟨rfl,_,rfl,_,ra,_,rfl,_,r1,_,rfl,_,r3,rfl,_,rfl,_,rfl,rfl,_,rfl,fun _ => ⟨_,rfl,?_,rfl⟩,fun z => ?_⟩)
    · rw [cut_none fun u hu => ?_]
      cases hs : stop u with
      | false => rfl
      | true => have := (hMe u).mpr ⟨hu,hs⟩; rw [h0,bit_zero] at this; exact ff this
    · rw [h0] at z; exact tt z
  · cases hg : growing d with
    | true =>
      have e15 := t15 (sa := sa) (zs := zs) (n := 23) (h := h) (by decide) hx hd8
      rw [hg] at e15
      refine gives_of (call_wp m23 hn ⟨rfl,_,rfl,_,ra,_,rfl,_,r1,_,rfl,_,r3,rfl,_,rfl,_,rfl,rfl,_,rfl,fun z => ?_,fun _ => ⟨_,rfl,_,_,e15,fun _ => ⟨_,rfl,_,rfl,_,rfl,?_,rfl⟩,nofun⟩⟩)
      · exact absurd (eq_of_beq z) h0
      · obtain ⟨a,ha,hlo,hup⟩ := bit_upto hM0 h0
        refine congrArg V.int (mk_of fun t => ?_)
        obtain ⟨ha1,ha2⟩ := (hMe a).mp ha
        refine (bit_and ..).trans ((congr (congrArg and (hbit t)) (hup t)).trans ?_)
        rw [hcut,Bool.eq_iff_iff,List.contains_iff_mem,cut_up stop t (ray_up D hq hd8 hg),Bool.and_eq_true,List.contains_iff_mem,decide_eq_true_eq]
        refine and_congr_right fun _ => ⟨fun z u hu hs => ?_,fun z => z a ha1 ha2⟩
        refine Nat.le_trans z (Nat.le_of_not_lt fun w => ?_)
        have := hlo u w
        rw [(hMe u).mpr ⟨hu,hs⟩] at this; exact tt this
    | false =>
      have e15 := t15 (sa := sa) (zs := zs) (n := 23) (h := h) (by decide) hx hd8
      rw [hg] at e15
      have s6 := smear_step (smear_step (smear_step (smear_step (smear_step (smear_step (smear_start hM0))))))
      refine gives_of (call_wp m23 hn ⟨rfl,_,rfl,_,ra,_,rfl,_,r1,_,rfl,_,r3,rfl,_,rfl,_,rfl,rfl,_,rfl,fun z => ?_,fun _ => ⟨_,rfl,_,_,e15,nofun,fun _ => ⟨_,rfl,_,rfl,rfl,
        _,rfl,_,rfl,_,rfl,_,rfl,_,rfl,_,rfl,_,rfl,_,rfl,_,rfl,_,rfl,_,rfl,_,rfl,_,rfl,_,rfl,_,rfl,_,rfl,_,rfl,_,rfl,_,rfl,_,rfl,_,rfl,?_,rfl⟩⟩⟩)
      · exact absurd (eq_of_beq z) h0
      · refine congrArg V.int (mk_of fun t => ?_)
        refine (bit_and ..).trans ((congr (congrArg and (hbit t)) ((bit_not ..).trans (congrArg not (s6.2 t)))).trans ?_)
        rw [hcut,Bool.eq_iff_iff,List.contains_iff_mem,cut_down stop t (ray_down D hq hd8 hg),Bool.and_eq_true,List.contains_iff_mem,Bool.not_eq_true',← Bool.not_eq_true,List.any_eq_true]
        refine and_congr_right fun _ => ⟨fun z u hu hs => ?_,fun z w => ?_⟩
        · refine Nat.le_of_not_lt fun w => z ⟨u - t - 1,List.mem_range.mpr ?_,?_⟩
          · exact Nat.lt_of_lt_of_le (sub_lt' (sub_lt' (lt u hu))) (Nat.le_trans D.size.2 (by decide))
          · rw [show t + 1 + (u - t - 1) = u by rw [← Nat.sub_add_eq,Nat.add_sub_cancel' w]]; exact (hMe u).mpr ⟨hu,hs⟩
        · obtain ⟨j,_,hj⟩ := w
          obtain ⟨h1,h2⟩ := (hMe _).mp hj
          have := z _ h1 h2
          exact absurd this (Nat.not_le_of_lt (Nat.lt_of_lt_of_le (Nat.lt_succ_self t) (Nat.le_add_right ..)))
end
noncomputable def slides (k d : Nat) : Bool := match k with
  | 3 => Nat.ble 4 d
  | 4 => Nat.blt d 4
  | 5 => true
  | _ => false
noncomputable def slideP (fs rs k q : Nat) (stop : Nat → Bool) (t : Nat) : Bool := (List.range 8).any fun d => slides k d && (cut stop (rayL fs rs d q)).contains t
noncomputable def attP (fs rs s k q : Nat) (stop : Nat → Bool) (t : Nat) : Bool := match k with
  | 1 => (hopsL fs rs q (pawnL s)).contains t
  | 2 => (hopsL fs rs q jumpsL).contains t
  | 6 => (hopsL fs rs q waysL).contains t
  | k => slideP fs rs k q stop t
inductive J24a (h : H) (g : V) (fs : Nat) (rs : Nat) (y : Int) (X : Int) (q : Nat) (stop : Nat → Bool) (L : List Nat) (σ : Sig) (h' : H) : Prop
  | mk  (c0 : ∃ p o,σ = [some g,some (.int y),some (.int X),some (.int (mk (fs * rs) p)),o] ∧ ∀ t,(p t || L.any fun d => (cut stop (rayL fs rs d q)).contains t) = slideP fs rs 4 q stop t) (c1 : h' = h) (c2 : ∀ d ∈ L,d < 8) : J24a h g fs rs y X q stop L σ h'
inductive J25a (h : H) (g : V) (fs : Nat) (rs : Nat) (y : Int) (X : Int) (q : Nat) (stop : Nat → Bool) (L : List Nat) (σ : Sig) (h' : H) : Prop
  | mk  (c0 : ∃ p o,σ = [some g,some (.int y),some (.int X),some (.int (mk (fs * rs) p)),o] ∧ ∀ t,(p t || L.any fun d => (cut stop (rayL fs rs d q)).contains t) = slideP fs rs 3 q stop t) (c1 : h' = h) (c2 : ∀ d ∈ L,d < 8) : J25a h g fs rs y X q stop L σ h'
section
variable {sa : Nat} {zs : List Int} {n : Nat} {h : H} {g : V} {fs rs : Nat} {hd : Bool} (G : GeoAt (P0 sa zs).C h g fs rs hd) (D : Dim fs rs)
include G D
theorem t24 (hn : 24 < n) {y X : Int} {q : Nat} {stop : Nat → Bool} (hy : y = q) (hq : q < fs * rs) (hX : X = mk (fs * rs) stop) :
    callN (P0 sa zs) fnT n 24 [g,.int y,.int X] h = some (.int (mk (fs * rs) (slideP fs rs 4 q stop)),h) := by
  refine gives_of (call_wp m24 hn ⟨rfl,rfl,_,rfl,rfl,forN_wp (L := List.range 4) (J24a h g fs rs y X q stop) _ (fun d L σ h' j => ?_) (fun σ h' j => ?_) rfl
    ⟨⟨fun _ => false,_,by rw [mk_nil]; rfl,fun t => rfl⟩,rfl,fun d hd => Nat.lt_trans (List.mem_range.mp hd) (by decide)⟩⟩)
  · obtain ⟨⟨p,o,rfl,hp⟩,rfl,hl⟩ := j
    refine ⟨rfl,rfl,_,rfl,_,rfl,_,rfl,_,rfl,_,rfl,_,_,t23 G D (by decide) rfl hy (hl d List.mem_cons_self) hq hX,⟨_,_,by rw [or_mk]; rfl,fun t => ?_⟩,rfl,fun d hd => hl d (List.mem_cons_of_mem _ hd)⟩
    rw [← hp t,List.any_cons,Bool.or_assoc]
  · obtain ⟨⟨p,o,rfl,hp⟩,rfl,hl⟩ := j
    exact ⟨rfl,_,rfl,congrArg V.int (mk_congr fun t _ => by rw [← hp t]; exact (Bool.or_false _).symm),rfl⟩
theorem t25 (hn : 25 < n) {y X : Int} {q : Nat} {stop : Nat → Bool} (hy : y = q) (hq : q < fs * rs) (hX : X = mk (fs * rs) stop) :
    callN (P0 sa zs) fnT n 25 [g,.int y,.int X] h = some (.int (mk (fs * rs) (slideP fs rs 3 q stop)),h) := by
  refine gives_of (call_wp m25 hn ⟨rfl,rfl,_,_,rfl,rfl,rfl,forN_wp (L := List.range' 4 4) (J25a h g fs rs y X q stop) _ (fun d L σ h' j => ?_) (fun σ h' j => ?_) rfl
    ⟨⟨fun _ => false,_,by rw [mk_nil]; rfl,fun t => rfl⟩,rfl,fun d hd => (List.mem_range'_1.mp hd).2⟩⟩)
  · obtain ⟨⟨p,o,rfl,hp⟩,rfl,hl⟩ := j
    refine ⟨rfl,rfl,_,rfl,_,rfl,_,rfl,_,rfl,_,rfl,_,_,t23 G D (by decide) rfl hy (hl d List.mem_cons_self) hq hX,⟨_,_,by rw [or_mk]; rfl,fun t => ?_⟩,rfl,fun d hd => hl d (List.mem_cons_of_mem _ hd)⟩
    rw [← hp t,List.any_cons,Bool.or_assoc]
  · obtain ⟨⟨p,o,rfl,hp⟩,rfl,hl⟩ := j
    exact ⟨rfl,_,rfl,congrArg V.int (mk_congr fun t _ => by rw [← hp t]; exact (Bool.or_false _).symm),rfl⟩
omit G D in
theorem slide_qn (fs rs q : Nat) (stop : Nat → Bool) (t : Nat) : (slideP fs rs 4 q stop t || slideP fs rs 3 q stop t) = slideP fs rs 5 q stop t := by
  have e : ∀ f : Nat → Bool,((List.range 8).any fun d => slides 5 d && f d) = ((List.range 4).any f || (List.range' 4 4).any f) := fun f => by
    show ((List.range 4 ++ List.range' 4 4).any f) = _
    rw [List.any_append]
  exact (e fun d => (cut stop (rayL fs rs d q)).contains t).symm
theorem t26 (hn : 26 < n) {y X : Int} {q : Nat} {stop : Nat → Bool} (hy : y = q) (hq : q < fs * rs) (hX : X = mk (fs * rs) stop) :
    callN (P0 sa zs) fnT n 26 [g,.int y,.int X] h = some (.int (mk (fs * rs) (slideP fs rs 5 q stop)),h) :=
  gives_of (call_wp m26 hn ⟨rfl,_,rfl,_,rfl,_,rfl,_,_,t24 G D (by decide) hy hq hX,_,rfl,_,rfl,_,rfl,_,_,t25 G D (by decide) hy hq hX,by rw [or_mk]; exact congrArg V.int (mk_congr fun t _ => slide_qn fs rs q stop t),rfl⟩)
theorem t28 (hn : 28 < n) {z x y X : Int} {s k q : Nat} {stop : Nat → Bool} (hz : z = s) (hs : s < 2) (hx : x = k) (hk : 1 ≤ k ∧ k < 7) (hy : y = q) (hq : q < fs * rs) (hX : X = mk (fs * rs) stop) :
    callN (P0 sa zs) fnT n 28 [g,.int z,.int x,.int y,.int X] h = some (.int (mk (fs * rs) (attP fs rs s k q stop)),h) := by
  obtain ⟨rv,ra,rr⟩ := geo_pw G D
  obtain ⟨r,r1,r2⟩ := rr z s hz hs
  obtain ⟨kv,ka,kr⟩ := geo_kn G D
  obtain ⟨gv,ga,gr⟩ := geo_kg G D
  subst hx
  have slider : ∀ k,k = 3 ∨ k = 4 ∨ k = 5 → callN (P0 sa zs) fnT 28 27 [g,.int (k : Nat),.int y,.int X] h = some (.int (mk (fs * rs) (slideP fs rs k q stop)),h) := fun k hk => by
    rcases hk with rfl | rfl | rfl
    · exact gives_of (call_wp m27 (by decide) ⟨rfl,_,rfl,fun _ => ⟨_,rfl,_,rfl,_,rfl,_,_,t25 G D (by decide) hy hq hX,rfl,rfl⟩,nofun⟩)
    · exact gives_of (call_wp m27 (by decide) ⟨rfl,_,rfl,nofun,fun _ => ⟨_,rfl,fun _ => ⟨_,rfl,_,rfl,_,rfl,_,_,t24 G D (by decide) hy hq hX,rfl,rfl⟩,nofun⟩⟩)
    · exact gives_of (call_wp m27 (by decide) ⟨rfl,_,rfl,nofun,fun _ => ⟨_,rfl,nofun,fun _ => ⟨_,rfl,fun _ => ⟨_,rfl,_,rfl,_,rfl,_,_,t26 G D (by decide) hy hq hX,rfl,rfl⟩,nofun⟩⟩⟩)
  rcases (six' k hk.2 hk.1) with rfl | rfl | rfl | hk
  · exact gives_of (call_wp m28 hn ⟨rfl,_,rfl,fun _ => ⟨_,rfl,_,ra,_,rfl,_,r1,_,rfl,_,r2 y q hy hq,rfl,rfl⟩,nofun⟩)
  · exact gives_of (call_wp m28 hn ⟨rfl,_,rfl,nofun,fun _ => ⟨_,rfl,fun _ => ⟨_,rfl,_,ka,_,rfl,_,kr y q hy hq,rfl,rfl⟩,nofun⟩⟩)
  · exact gives_of (call_wp m28 hn ⟨rfl,_,rfl,nofun,fun _ => ⟨_,rfl,nofun,fun _ => ⟨_,rfl,fun _ => ⟨_,rfl,_,ga,_,rfl,_,gr y q hy hq,rfl,rfl⟩,nofun⟩⟩⟩)
  · have e : attP fs rs s k q stop = slideP fs rs k q stop := by rcases hk with rfl | rfl | rfl <;> rfl
    have sl := slider k hk
    rw [e]
    rcases hk with rfl | rfl | rfl
    · exact gives_of (call_wp m28 hn ⟨rfl,_,rfl,nofun,fun _ => ⟨_,rfl,nofun,fun _ => ⟨_,rfl,nofun,fun _ => ⟨_,rfl,_,rfl,_,rfl,_,rfl,_,_,sl,rfl,rfl⟩⟩⟩⟩)
    · exact gives_of (call_wp m28 hn ⟨rfl,_,rfl,nofun,fun _ => ⟨_,rfl,nofun,fun _ => ⟨_,rfl,nofun,fun _ => ⟨_,rfl,_,rfl,_,rfl,_,rfl,_,_,sl,rfl,rfl⟩⟩⟩⟩)
    · exact gives_of (call_wp m28 hn ⟨rfl,_,rfl,nofun,fun _ => ⟨_,rfl,nofun,fun _ => ⟨_,rfl,nofun,fun _ => ⟨_,rfl,_,rfl,_,rfl,_,rfl,_,_,sl,rfl,rfl⟩⟩⟩⟩)
end
noncomputable def cell (b : List Nat) (t : Nat) : Nat := b.getD t 0
noncomputable def occB (b : List Nat) (t : Nat) : Bool := !Nat.beq (cell b t) 0
noncomputable def ownB (b : List Nat) (s t : Nat) : Bool := occB b t && Nat.beq (cell b t / 8) s
noncomputable def kindB (b : List Nat) (k t : Nat) : Bool := occB b t && Nat.beq (cell b t % 8) k
noncomputable def isK (b : List Nat) (s k t : Nat) : Bool := Nat.beq (cell b t) (8 * s + k)
noncomputable def kingOf (b : List Nat) (s : Nat) : Nat := b.idxOf (8 * s + 6)
structure Good (fs rs : Nat) (b : List Nat) : Prop where
  dim : Dim fs rs
  len : b.length = fs * rs
  lt : ∀ t,cell b t < 16
  ok : ∀ t,cell b t % 8 < 7 ∧ (cell b t % 8 = 0 → cell b t = 0)
  pawn : ∀ s t,s < 2 → t < fs * rs → isK b s 1 t = true → 0 < t / fs ∧ t / fs + 1 < rs
  king : ∀ s,s < 2 → kingOf b s < fs * rs ∧ ∀ t,t < fs * rs → isK b s 6 t = Nat.beq (kingOf b s) t
structure PosAt (C : Nat → Option O) (h : H) (p : V) (fs rs : Nat) (hd : Bool) (b : List Nat) : Prop where
  geo : ∃ g,getAttr h p 14 = some g ∧ GeoAt C h g fs rs hd
  board : ∃ v,getAttr h p 16 = some v ∧ IntL C h v (b.map fun (c : Nat) => (c : Int))
  kinds : ∃ v l,getAttr h p 17 = some v ∧ IntL C h v l ∧ ∀ k,k < 7 → l[k]? = some (mk (fs * rs) (kindB b k))
  sides : ∃ v,getAttr h p 18 = some v ∧ IntL C h v [mk (fs * rs) (ownB b 0),mk (fs * rs) (ownB b 1)]
theorem PosAt.mono {C : Nat → Option O} {B h : H} {p : V} {fs rs : Nat} {hd : Bool} {b : List Nat} (pre : B <+: h) (x : PosAt C B p fs rs hd b) : PosAt C h p fs rs hd b := by
  obtain ⟨⟨g,a1,a2⟩,⟨v,b1,b2⟩,⟨w,l,c1,c2,c3⟩,u,d1,d2⟩ := x
  exact ⟨⟨g,attr_pre pre a1,a2.mono pre⟩,⟨v,attr_pre pre b1,b2.mono pre⟩,⟨w,l,attr_pre pre c1,c2.mono pre,c3⟩,u,attr_pre pre d1,d2.mono pre⟩
theorem beq_iff' {a b : Nat} : Nat.beq a b = true ↔ a = b := ⟨Nat.eq_of_beq_eq_true,fun e => by subst e; exact Nat.beq_refl _⟩
theorem beq_ff {a b : Nat} : Nat.beq a b = false ↔ a ≠ b := by rw [← Bool.not_eq_true,beq_iff']
theorem piece_eq {b : List Nat} {s k t : Nat} (h1 : 1 ≤ k) (h8 : k < 8) : (ownB b s t && kindB b k t) = isK b s k t := by
  unfold ownB kindB isK occB
  rw [Bool.eq_iff_iff]
  simp only [Bool.and_eq_true,beq_iff',Bool.not_eq_true',beq_ff]
  refine ⟨fun ⟨⟨_,a⟩,_,e⟩ => (code_iff h8).mpr ⟨a,e⟩,fun e => ?_⟩
  obtain ⟨a,d⟩ := (code_iff h8).mp e
  have n : ¬ cell b t = 0 := fun z => by rw [z] at d; subst d; cases h1
  exact ⟨⟨n,a⟩,n,d⟩
section
variable {sa : Nat} {zs : List Int} {n : Nat} {h : H} {p : V} {fs rs : Nat} {hd : Bool} {b : List Nat}
theorem pos_sd (Z : PosAt (P0 sa zs).C h p fs rs hd b) : ∃ v,getAttr h p 18 = some v ∧ ∀ (x : Int) (s : Nat),x = s → s < 2 → getSub (P0 sa zs).C h v (.int x) = some (.int (mk (fs * rs) (ownB b s))) := by
  obtain ⟨v,a,e⟩ := Z.sides
  refine ⟨v,a,fun x s hx hs => e.at hx (big_lt hs) ?_⟩
  match s,hs with
  | 0,_ => rfl
  | 1,_ => rfl
theorem pos_kd (Z : PosAt (P0 sa zs).C h p fs rs hd b) : ∃ v,getAttr h p 17 = some v ∧ ∀ (x : Int) (k : Nat),x = k → k < 7 → getSub (P0 sa zs).C h v (.int x) = some (.int (mk (fs * rs) (kindB b k))) := by
  obtain ⟨v,l,a,e,f⟩ := Z.kinds
  exact ⟨v,a,fun x k hx hk => e.at hx (big_lt hk) (f k hk)⟩
theorem pos_bd (Z : PosAt (P0 sa zs).C h p fs rs hd b) (Y : Good fs rs b) : ∃ v,getAttr h p 16 = some v ∧ ∀ (x : Int) (t : Nat),x = t → t < fs * rs → getSub (P0 sa zs).C h v (.int x) = some (.int (cell b t : Nat)) := by
  obtain ⟨v,a,e⟩ := Z.board
  refine ⟨v,a,fun x t hx ht => e.at hx (small_size Y.dim ht) ?_⟩
  have : t < b.length := by rw [Y.len]; exact ht
  rw [List.getElem?_map,List.getElem?_eq_getElem this,cell,List.getD_eq_getElem?_getD,List.getElem?_eq_getElem this]; rfl
theorem occ_eq (Y : Good fs rs b) (t : Nat) : (ownB b 0 t || ownB b 1 t) = occB b t := by
  have := Y.lt t
  unfold ownB
  cases occB b t with
  | false => rfl
  | true =>
    rw [Bool.true_and,Bool.true_and,Bool.or_eq_true,beq_iff',beq_iff']; revert this; generalize cell b t = c; revert c; decide
theorem king_lt (Y : Good fs rs b) {s : Nat} (hs : s < 2) : kingOf b s < fs * rs := (Y.king s hs).1
noncomputable def stopB (b : List Nat) (s k t : Nat) : Bool := match k with
  | 3 => occB b t && !kindB b 5 t
  | 4 => (occB b t && !kindB b 5 t) && !isK b s 4 t
  | _ => occB b t
variable (Z : PosAt (P0 sa zs).C h p fs rs hd b) (Y : Good fs rs b)
include Z Y
theorem t30 (hn : 30 < n) : callN (P0 sa zs) fnT n 30 [p] h = some (.int (mk (fs * rs) (occB b)),h) := by
  obtain ⟨v,a,e⟩ := pos_sd Z
  exact gives_of (call_wp m30 hn ⟨rfl,_,rfl,_,a,_,e _ 0 rfl (by decide),_,rfl,_,a,_,e _ 1 rfl (by decide),by rw [or_mk]; exact congrArg V.int (mk_congr fun t _ => occ_eq Y t),rfl⟩)
omit Y in
theorem t31 (hn : 31 < n) {z x : Int} {s k : Nat} (hz : z = s) (hs : s < 2) (hx : x = k) (hk : 1 ≤ k ∧ k < 7) : callN (P0 sa zs) fnT n 31 [p,.int z,.int x] h = some (.int (mk (fs * rs) (isK b s k)),h) := by
  obtain ⟨v,a,e⟩ := pos_sd Z
  obtain ⟨w,c,f⟩ := pos_kd Z
  exact gives_of (call_wp m31 hn ⟨rfl,_,rfl,_,a,_,rfl,_,e z s hz hs,_,rfl,_,c,_,rfl,_,f x k hx hk.2,by rw [and_mk]; exact congrArg V.int (mk_congr fun t _ => piece_eq hk.1 (Nat.lt_succ_of_lt hk.2)),rfl⟩)
theorem t32 (hn : 32 < n) {z : Int} {s : Nat} (hz : z = s) (hs : s < 2) : callN (P0 sa zs) fnT n 32 [p,.int z] h = some (vN (kingOf b s),h) := by
  obtain ⟨v,a,e⟩ := pos_sd Z
  obtain ⟨w,c,f⟩ := pos_kd Z
  have e8 := t8 (sa := sa) (zs := zs) (n := 32) (h := h) (by decide) Y.dim.size.2 (king_lt Y hs)
  have eq : mk (fs * rs) (fun t => Nat.beq (kingOf b s) t) = Builtin.bitAnd (mk (fs * rs) (ownB b s)) (mk (fs * rs) (kindB b 6)) := by
    rw [and_mk]; exact mk_congr fun t ht => by rw [piece_eq (by decide) (by decide),(Y.king s hs).2 t ht]
  rw [eq] at e8
  exact gives_of (call_wp m32 hn ⟨rfl,_,rfl,_,a,_,rfl,_,e z s hz hs,_,rfl,_,c,_,f _ 6 rfl (by decide),_,_,e8,rfl,rfl⟩)
omit Y in
theorem t33 (hn : 33 < n) : callN (P0 sa zs) fnT n 33 [p] h = some (.int (mk (fs * rs) fun t => kindB b 4 t || kindB b 5 t),h) := by
  obtain ⟨w,c,f⟩ := pos_kd Z
  exact gives_of (call_wp m33 hn ⟨rfl,_,rfl,_,c,_,f _ 4 rfl (by decide),_,rfl,_,c,_,f _ 5 rfl (by decide),by rw [or_mk],rfl⟩)
omit Y in
theorem t34 (hn : 34 < n) : callN (P0 sa zs) fnT n 34 [p] h = some (.int (mk (fs * rs) fun t => kindB b 3 t || kindB b 5 t),h) := by
  obtain ⟨w,c,f⟩ := pos_kd Z
  exact gives_of (call_wp m34 hn ⟨rfl,_,rfl,_,c,_,f _ 3 rfl (by decide),_,rfl,_,c,_,f _ 5 rfl (by decide),by rw [or_mk],rfl⟩)
theorem t41 (hn : 41 < n) {z x : Int} {s k : Nat} (hz : z = s) (hs : s < 2) (hx : x = k) (hk : 1 ≤ k ∧ k < 7) : callN (P0 sa zs) fnT n 41 [p,.int z,.int x] h = some (.int (mk (fs * rs) (stopB b s k)),h) := by
  obtain ⟨w,c,f⟩ := pos_kd Z
  subst hx
  rcases ((show ∀ k,k < 7 → 1 ≤ k → k = 1 ∨ k = 2 ∨ k = 6 ∨ k = 5 ∨ k = 3 ∨ k = 4 by decide) k hk.2 hk.1) with rfl | rfl | rfl | rfl | rfl | rfl
  · exact gives_of (call_wp m41 hn ⟨rfl,_,rfl,_,_,t30 Z Y (by decide),rfl,_,rfl,nofun,fun _ => ⟨_,rfl,nofun,fun _ => ⟨_,rfl,nofun,fun _ => ⟨_,rfl,rfl,rfl⟩⟩⟩⟩)
  · exact gives_of (call_wp m41 hn ⟨rfl,_,rfl,_,_,t30 Z Y (by decide),rfl,_,rfl,nofun,fun _ => ⟨_,rfl,nofun,fun _ => ⟨_,rfl,nofun,fun _ => ⟨_,rfl,rfl,rfl⟩⟩⟩⟩)
  · exact gives_of (call_wp m41 hn ⟨rfl,_,rfl,_,_,t30 Z Y (by decide),rfl,_,rfl,nofun,fun _ => ⟨_,rfl,nofun,fun _ => ⟨_,rfl,nofun,fun _ => ⟨_,rfl,rfl,rfl⟩⟩⟩⟩)
  · exact gives_of (call_wp m41 hn ⟨rfl,_,rfl,_,_,t30 Z Y (by decide),rfl,_,rfl,nofun,fun _ => ⟨_,rfl,nofun,fun _ => ⟨_,rfl,nofun,fun _ => ⟨_,rfl,rfl,rfl⟩⟩⟩⟩)
  · exact gives_of (call_wp m41 hn ⟨rfl,_,rfl,_,_,t30 Z Y (by decide),rfl,_,rfl,fun _ => ⟨fun _ => ⟨_,rfl,_,rfl,_,c,_,f _ 5 rfl (by decide),_,rfl,_,rfl,nofun,fun _ => ⟨_,rfl,by rw [andn_mk]; rfl,rfl⟩⟩,nofun⟩,nofun⟩)
  · exact gives_of (call_wp m41 hn ⟨rfl,_,rfl,_,_,t30 Z Y (by decide),rfl,_,rfl,nofun,fun _ => ⟨_,rfl,fun _ => ⟨_,rfl,_,rfl,_,c,_,f _ 5 rfl (by decide),_,rfl,_,rfl,fun _ => ⟨_,rfl,_,rfl,_,rfl,_,_,t31 Z (by decide) hz hs rfl (by decide),_,rfl,_,rfl,by rw [andn_mk,andn_mk]; rfl,rfl⟩,nofun⟩,nofun⟩⟩)
end
noncomputable def snipB (fs rs : Nat) (b : List Nat) (s t : Nat) : Bool := ((slideP fs rs 4 (kingOf b s) (fun _ => false) t && (kindB b 4 t || kindB b 5 t)) || (slideP fs rs 3 (kingOf b s) (fun _ => false) t && (kindB b 3 t || kindB b 5 t))) && ownB b (1 - s) t
noncomputable def upB (fs rs s : Nat) (p : Nat → Bool) (t : Nat) : Bool := match s with
  | 0 => Nat.ble fs t && p (t - fs)
  | _ => Nat.blt (t + fs) (fs * rs) && p (t + fs)
noncomputable def nbB (fs rs : Nat) (p : Nat → Bool) (t : Nat) : Bool := (Nat.ble 1 t && (p (t - 1) && !Nat.beq ((t - 1) % fs) (fs - 1))) || (Nat.blt (t + 1) (fs * rs) && (p (t + 1) && !Nat.beq ((t + 1) % fs) 0))
noncomputable def rkS (fs rs s t : Nat) : Nat := match s with
  | 0 => t / fs
  | _ => rs - 1 - t / fs
noncomputable def areaB (fs rs : Nat) (b : List Nat) (s : Nat) (sh : Nat → Bool) (t : Nat) : Bool :=
  !((isK b s 1 t && ((Nat.beq (rkS fs rs s t) 1 || Nat.beq (rkS fs rs s t) 2) || upB fs rs (1 - s) (occB b) t)) || ((isK b s 6 t || isK b s 5 t) || sh t)) && !upB fs rs (1 - s) (nbB fs rs (isK b (1 - s) 1)) t
noncomputable def lineUp (fs rs : Nat) (b : List Nat) (s k q : Nat) (sh : Nat → Bool) (t : Nat) : Bool := attP fs rs s k q (stopB b s k) t && (!(!Nat.beq k 1 && (!Nat.beq k 6 && sh q)) || lineB fs rs (kingOf b s) q t)
theorem one_sub {z : Int} {s : Nat} (hz : z = s) (hs : s < 2) : Int.ofNat 1 - z = ((1 - s : Nat) : Int) := by
  subst hz; exact cast_sub (Nat.le_of_lt_succ hs)
theorem ble_decide (a b : Nat) : Nat.ble a b = decide (a ≤ b) := by rw [Bool.eq_iff_iff,Nat.ble_eq,decide_eq_true_eq]
theorem blt_decide (a b : Nat) : Nat.blt a b = decide (a < b) := ble_decide ..
theorem div_lt_ranks {fs rs t : Nat} (ht : t < fs * rs) : t / fs < rs := Nat.div_lt_of_lt_mul ht
section
variable {sa : Nat} {zs : List Int} {n : Nat} {h : H}
section
variable {g : V} {fs rs : Nat} {hd : Bool} (G : GeoAt (P0 sa zs).C h g fs rs hd) (D : Dim fs rs)
include G D
theorem t37 (hn : 37 < n) {z X : Int} {s : Nat} {p : Nat → Bool} (hz : z = s) (hs : s < 2) (hX : X = mk (fs * rs) p) : callN (P0 sa zs) fnT n 37 [g,.int X,.int z] h = some (.int (mk (fs * rs) (upB fs rs s p)),h) := by
  subst hz hX
  have hf : fs ≤ 1000 := Nat.le_trans D.1.2 (by decide)
  match s,hs with
  | 0,_ =>
    refine gives_of (call_wp m37 hn ⟨rfl,_,rfl,fun _ => ⟨_,rfl,_,rfl,_,G.files,_,shl_ok rfl hf (mk_small D.le p),_,rfl,_,geo_fu G,congrArg V.int (mk_of fun t => ?_),rfl⟩,nofun⟩)
    rw [bit_and,bit_shl (mk_nonneg ..),bit_mk,bit_mk,Bool.and_true]
    show _ = (_ && (Nat.ble fs t && p (t - fs)))
    rw [ble_decide]
    by_cases h1 : t < fs * rs
    · rw [decide_eq_true h1,decide_eq_true (show t - fs < fs * rs from sub_lt' ‹t < fs * rs›)]; simp
    · rw [decide_eq_false h1]; simp
  | 1,_ =>
    refine gives_of (call_wp m37 hn ⟨rfl,_,rfl,nofun,fun _ => ⟨_,rfl,_,rfl,_,G.files,_,shr_ok rfl,congrArg V.int (mk_of fun t => ?_),rfl⟩⟩)
    rw [bit_shr (mk_nonneg ..),bit_mk]
    show _ = (_ && (Nat.blt (t + fs) (fs * rs) && p (t + fs)))
    rw [blt_decide]
    by_cases h1 : t + fs < fs * rs
    · rw [decide_eq_true h1,decide_eq_true (show t < fs * rs from Nat.lt_of_le_of_lt (Nat.le_add_right ..) h1)]; simp
    · rw [decide_eq_false h1]; simp
theorem t38 (hn : 38 < n) {X : Int} {p : Nat → Bool} (hX : X = mk (fs * rs) p) : callN (P0 sa zs) fnT n 38 [g,.int X] h = some (.int (mk (fs * rs) (nbB fs rs p)),h) := by
  subst hX
  obtain ⟨v,a,e⟩ := geo_fl G D
  have hf := D.1
  have hf1 : (fs : Int) - Int.ofNat 1 = ((fs - 1 : Nat) : Int) := cast_sub D.pos
  have sm : ∀ q : Nat → Bool,small (Builtin.bitAnd (mk (fs * rs) p) (Builtin.bitNot (mk (fs * rs) q))) = true := fun q => by rw [andn_mk]; exact mk_small D.le _
  refine gives_of (call_wp m38 hn ⟨rfl,_,rfl,_,rfl,_,a,_,rfl,_,G.files,_,e _ (fs - 1) hf1 (Nat.sub_lt D.pos (by decide)),_,rfl,_,shl_ok (c := 1) rfl (by decide) (sm _),rfl,_,rfl,_,rfl,_,a,_,e _ 0 rfl D.pos,_,rfl,_,rfl,rfl,_,rfl,_,rfl,_,rfl,_,geo_fu G,congrArg V.int (mk_of fun t => ?_),rfl⟩)
  rw [andn_mk,andn_mk,bit_and,bit_or,bit_shl (mk_nonneg ..),bit_mk,bit_mk,Bool.and_true,nbB,ble_decide,blt_decide]
  have e2 : bit ((mk (fs * rs) fun t => p t && !Nat.beq (t % fs) 0).fdiv (2 ^ 1)) t = _ := (bit_shr (mk_nonneg ..) 1 t).trans (bit_mk ..)
  refine (congrArg (fun z => (_ || z) && _) e2).trans ?_
  by_cases h1 : t < fs * rs
  · rw [decide_eq_true h1]
    by_cases h2 : 1 ≤ t
    · rw [decide_eq_true h2,decide_eq_true (show t - 1 < fs * rs from sub_lt' ‹t < fs * rs›)]; simp
    · rw [decide_eq_false h2]; simp
  · rw [decide_eq_false h1]; simp
theorem t39 (hn : 39 < n) {z X : Int} {s : Nat} {p : Nat → Bool} (hz : z = s) (hs : s < 2) (hX : X = mk (fs * rs) p) : callN (P0 sa zs) fnT n 39 [g,.int X,.int z] h = some (.int (mk (fs * rs) (upB fs rs s (nbB fs rs p))),h) :=
  gives_of (call_wp m39 hn ⟨rfl,_,rfl,_,rfl,_,rfl,_,_,t38 G D (by decide) hX,_,rfl,_,_,t37 G D (by decide) hz hs rfl,rfl,rfl⟩)
theorem t40 (hn : 40 < n) {z x : Int} {s r : Nat} (hz : z = s) (hs : s < 2) (hx : x = r) (hr : r < rs) : callN (P0 sa zs) fnT n 40 [g,.int z,.int x] h = some (.int (mk (fs * rs) fun t => Nat.beq (rkS fs rs s t) r),h) := by
  obtain ⟨v,a,e⟩ := geo_rk G D
  subst hz
  match s,hs with
  | 0,_ => exact gives_of (call_wp m40 hn ⟨rfl,_,rfl,fun _ => ⟨_,rfl,_,a,_,rfl,_,e x r hx hr,rfl,rfl⟩,nofun⟩)
  | 1,_ =>
    have e1 : (rs : Int) - Int.ofNat 1 - x = ((rs - 1 - r : Nat) : Int) := by subst hx; exact cast_sub2 hr
    refine gives_of (call_wp m40 hn ⟨rfl,_,rfl,nofun,fun _ => ⟨_,rfl,_,a,_,rfl,_,G.ranks,_,rfl,_,e _ _ e1 (sub_lt' (Nat.sub_lt (Nat.lt_of_le_of_lt (Nat.zero_le _) hr) (by decide))),congrArg V.int (mk_congr fun t ht => ?_),rfl⟩⟩)
    have := div_lt_ranks ht
    show Nat.beq (t / fs) _ = Nat.beq (rs - 1 - t / fs) r
    rw [Bool.eq_iff_iff,beq_iff',beq_iff']; exact mirror_iff this hr
end
variable {p : V} {fs rs : Nat} {hd : Bool} {b : List Nat} (Z : PosAt (P0 sa zs).C h p fs rs hd b) (Y : Good fs rs b)
include Z Y
theorem t35 (hn : 35 < n) {z : Int} {s : Nat} (hz : z = s) (hs : s < 2) : callN (P0 sa zs) fnT n 35 [p,.int z] h = some (.int (mk (fs * rs) (snipB fs rs b s)),h) := by
  obtain ⟨g,ga,G⟩ := Z.geo
  obtain ⟨v,a,e⟩ := pos_sd Z
  have kl := king_lt Y hs
  exact gives_of (call_wp m35 hn ⟨rfl,_,rfl,_,rfl,_,_,t32 Z Y (by decide) hz hs,rfl,_,rfl,_,ga,_,rfl,_,_,t24 G Y.dim (by decide) rfl kl (mk_nil _).symm,_,rfl,_,_,t33 Z (by decide),rfl,_,rfl,_,rfl,_,ga,_,rfl,_,_,t25 G Y.dim (by decide) rfl kl (mk_nil _).symm,
    _,rfl,_,_,t34 Z (by decide),_,rfl,_,rfl,_,a,_,rfl,_,e _ _ (one_sub hz hs) one_lt,by rw [and_mk,and_mk,or_mk,and_mk]; rfl,rfl⟩)
theorem t42 (hn : 42 < n) {z x y W : Int} {s k q : Nat} {sh : Nat → Bool} (hz : z = s) (hs : s < 2) (hx : x = k) (hk : 1 ≤ k ∧ k < 7) (hy : y = q) (hq : q < fs * rs) (hW : W = mk (fs * rs) sh) :
    callN (P0 sa zs) fnT n 42 [p,.int z,.int x,.int y,.int W] h = some (.int (mk (fs * rs) (lineUp fs rs b s k q sh)),h) := by
  subst hW
  obtain ⟨g,ga,G⟩ := Z.geo
  have kl := king_lt Y hs
  have e1 : (x != Int.ofNat 1) = !Nat.beq k 1 := by subst hx; rw [Bool.eq_iff_iff,bne_iff_ne,Bool.not_eq_true',beq_ff]; exact not_congr (eq_cast (n := 1))
  have e6 : (x != Int.ofNat 6) = !Nat.beq k 6 := by subst hx; rw [Bool.eq_iff_iff,bne_iff_ne,Bool.not_eq_true',beq_ff]; exact not_congr (eq_cast (n := 6))
  have es := bitOf (mk_nonneg (fs * rs) sh) q
  rw [bit_mk,decide_eq_true hq,Bool.true_and] at es
  have no : (!Nat.beq k 1 && (!Nat.beq k 6 && sh q)) = false → (mk (fs * rs) (attP fs rs s k q (stopB b s k))) = mk (fs * rs) (lineUp fs rs b s k q sh) := fun z => mk_congr fun t _ => by unfold lineUp; rw [z]; simp
  refine gives_of (call_wp m42 hn ⟨rfl,_,rfl,_,ga,_,rfl,_,rfl,_,rfl,_,rfl,_,rfl,_,rfl,_,_,t41 Z Y (by decide) hz hs hx hk,_,_,t28 G Y.dim (by decide) hz hs hx hk hy hq rfl,rfl,_,rfl,fun q1 => ⟨_,rfl,fun q2 => ⟨_,rfl,_,rfl,_,shr_ok hy,fun q3 => ⟨_,rfl,_,rfl,_,ga,_,rfl,_,rfl,_,_,t32 Z Y (by decide) hz hs,_,rfl,_,_,t14 G Y.dim (by decide) rfl hy kl hq,
      _,rfl,?_,rfl⟩,fun q3 => ⟨_,rfl,?_,rfl⟩⟩,fun q2 => ⟨fun z => (by rw [q2] at z; cases z),fun _ => ⟨_,rfl,?_,rfl⟩⟩⟩,fun q1 => ⟨fun z => (by rw [q1] at z; cases z),fun _ => ⟨_,rfl,?_,rfl⟩⟩⟩)
  · rw [and_mk]
    refine congrArg V.int (mk_congr fun t _ => ?_)
    unfold lineUp; rw [← e1,← e6,q1,q2,es.mp q3]; simp
  · refine congrArg V.int (no ?_)
    cases hsq : sh q with
    | false => simp
    | true => exact absurd q3 (es.mpr hsq)
  · refine congrArg V.int (no ?_); rw [← e6,q2]; simp
  · refine congrArg V.int (no ?_); rw [← e1,q1]; simp
theorem t45 (hn : 45 < n) {z W : Int} {s : Nat} {sh : Nat → Bool} (hz : z = s) (hs : s < 2) (hW : W = mk (fs * rs) sh) : callN (P0 sa zs) fnT n 45 [p,.int z,.int W] h = some (.int (mk (fs * rs) (areaB fs rs b s sh)),h) := by
  subst hW
  obtain ⟨g,ga,G⟩ := Z.geo
  have D := Y.dim
  have hr := D.2
  exact gives_of (call_wp m45 hn ⟨rfl,_,rfl,_,ga,rfl,_,rfl,_,rfl,_,_,t40 G D (by decide) hz hs (r := 1) rfl (Nat.lt_of_lt_of_le (by decide) hr.1),_,rfl,_,rfl,_,_,t40 G D (by decide) hz hs (r := 2) rfl (Nat.lt_of_lt_of_le (by decide) hr.1),rfl,
    _,rfl,_,rfl,_,_,t31 Z (by decide) hz hs (k := 1) rfl (by decide),_,rfl,_,rfl,_,rfl,_,_,t30 Z Y (by decide),_,rfl,_,_,t37 G D (by decide) (one_sub hz hs) one_lt rfl,rfl,
    _,rfl,_,rfl,_,rfl,_,_,t31 Z (by decide) hz hs (k := 6) rfl (by decide),_,rfl,_,rfl,_,_,t31 Z (by decide) hz hs (k := 5) rfl (by decide),_,rfl,
    _,rfl,_,geo_fu G,_,rfl,_,rfl,_,rfl,_,rfl,_,rfl,_,_,t31 Z (by decide) (one_sub hz hs) one_lt (k := 1) rfl (by decide),_,rfl,_,_,t39 G D (by decide) (one_sub hz hs) one_lt rfl,_,rfl,
    by rw [or_mk,or_mk,and_mk,or_mk,or_mk,or_mk,andn_mk,andn_mk]; exact congrArg V.int (mk_congr fun t _ => by unfold areaB; rw [Bool.true_and]),rfl⟩)
end
theorem more_one {X : Int} (hX : Brd X) (h0 : X ≠ 0) : (Builtin.bitAnd X (X - 1) != 0) = !Nat.beq (sq X).length 1 := by
  obtain ⟨a,_,e,hb,_⟩ := clear_step hX h0
  rw [e,List.length_cons,Bool.eq_iff_iff,bne_iff_ne,Bool.not_eq_true',beq_ff,Ne,← sq_nil hb,Ne,Nat.succ_inj,List.length_eq_zero_iff]
theorem any_or {α : Type} (f g : α → Bool) (l : List α) : (l.any f || l.any g) = l.any fun x => f x || g x := by
  induction l with
  | nil => rfl
  | cons x r ih => rw [List.any_cons,List.any_cons,List.any_cons,← ih]; cases f x <;> cases g x <;> simp
noncomputable def inP (fs rs : Nat) (b : List Nat) (s u t : Nat) : Bool := betw fs rs (kingOf b s) u t && (occB b t ^^ snipB fs rs b s t)
noncomputable def one1 (fs rs : Nat) (b : List Nat) (s u : Nat) : Bool := Nat.beq ((List.range (fs * rs)).filter (inP fs rs b s u)).length 1
noncomputable def shB (fs rs : Nat) (b : List Nat) (s t : Nat) : Bool := ((List.range (fs * rs)).filter (snipB fs rs b s)).any fun u => one1 fs rs b s u && inP fs rs b s u t
theorem stable_of {C : Nat → Option O} {h : H} {v : V} {o : O} (e : objOf C h v = some o) : stable C v o h = true := by
  unfold stable; rw [e]; exact beq_self_eq_true _
inductive J36a (h : H) (p : V) (fs : Nat) (rs : Nat) (b : List Nat) (z : Int) (s : Nat) (L : List Nat) (σ : Sig) (h' : H) : Prop
  | mk  (c0 : ∃ q w o7 o8,σ = [some p,some (.int z),some (vN (kingOf b s)),some (.int (mk (fs * rs) (snipB fs rs b s))),some (.int (mk (fs * rs) fun t => occB b t ^^ snipB fs rs b s t)),some (.int (mk (fs * rs) q)),some (.int w),o7,o8] ∧
      ∀ t,(q t || L.any fun u => one1 fs rs b s u && inP fs rs b s u t) = shB fs rs b s t) (c1 : h' = h ++ [O.lst (((List.range (fs * rs)).filter (snipB fs rs b s)).map vN)]) (c2 : ∀ u ∈ L,u < fs * rs) : J36a h p fs rs b z s L σ h'
section
variable {sa : Nat} {zs : List Int} {n : Nat} {h : H}
theorem e9 (hn : 9 < n) {N : Nat} (hN : N ≤ 64) {X : Int} {p : Nat → Bool} (hX : X = mk N p) : callN (P0 sa zs) fnT n 9 [.int X] h = some (.ref h.length,h ++ [.lst (((List.range N).filter p).map vN)]) := by
  subst hX
  obtain ⟨v,h',e,rfl,rfl⟩ := t9 (sa := sa) (zs := zs) (h := h) hn (brd_mk hN p)
  rw [e,sq_mk hN]
theorem e6 (hn : 6 < n) {X : Int} : callN (P0 sa zs) fnT n 6 [.int X] h = some (.bool (Builtin.bitAnd X (X - 1) != 0),h) := gives_of (t6 hn)
theorem e5 (hn : 5 < n) {N : Nat} (hN : N ≤ 64) {X : Int} {p : Nat → Bool} (hX : X = mk N p) : callN (P0 sa zs) fnT n 5 [.int X] h = some (vN ((List.range N).filter p).length,h) := by
  subst hX
  rw [gives_of (t5 hn (brd_mk hN p)),sq_mk hN]
variable {p : V} {fs rs : Nat} {hd : Bool} {b : List Nat} (Z : PosAt (P0 sa zs).C h p fs rs hd b) (Y : Good fs rs b)
include Z Y
theorem t36 (hn : 36 < n) {z : Int} {s : Nat} (hz : z = s) (hs : s < 2) : Meets (P0 sa zs) n 36 [p,.int z] h fun v h' => h <+: h' ∧ getSub (P0 sa zs).C h' v (.int 0) = some (.int (mk (fs * rs) (shB fs rs b s))) := by
  have D := Y.dim
  have kl := king_lt Y hs
  obtain ⟨v,a,e⟩ := pos_sd Z
  have pre : h <+: h ++ [O.lst (((List.range (fs * rs)).filter (snipB fs rs b s)).map vN)] := List.prefix_append _ _
  have Z1 := Z.mono pre
  obtain ⟨v1,a1,e1⟩ := pos_sd Z1
  obtain ⟨g,ga,G⟩ := Z1.geo
  have lt : ∀ u ∈ (List.range (fs * rs)).filter (snipB fs rs b s),u < fs * rs := fun u hu => List.mem_range.mp (List.mem_filter.mp hu).1
  have eo : Builtin.bitXor (Builtin.bitOr (mk (fs * rs) (ownB b 0)) (mk (fs * rs) (ownB b 1))) (mk (fs * rs) (snipB fs rs b s)) = mk (fs * rs) fun t => occB b t ^^ snipB fs rs b s t := by
    rw [or_mk,xor_mk]; exact mk_congr fun t _ => by rw [occ_eq Y]
  refine call_wp m36 hn ⟨rfl,_,rfl,_,rfl,_,_,t32 Z Y (by decide) hz hs,rfl,_,rfl,_,rfl,_,_,t35 Z Y (by decide) hz hs,rfl,_,rfl,_,a,_,e _ 0 rfl (by decide),_,rfl,_,a,_,e _ 1 rfl (by decide),_,rfl,rfl,rfl,rfl,
    _,rfl,_,_,e9 (by decide) D.le rfl,_,_,last_get h _,rfl,
    forN_wp (L := (List.range (fs * rs)).filter (snipB fs rs b s)) (J36a h p fs rs b z s) _ (fun u L σ h' j => ?_) (fun σ h' j => ?_) rfl
    ⟨⟨fun _ => false,0,none,none,by rw [mk_nil,← eo]; rfl,fun t => rfl⟩,rfl,lt⟩⟩
  · obtain ⟨⟨q,w,o7,o8,rfl,hq⟩,rfl,hl⟩ := j
    have hu := hl u List.mem_cons_self
    have hl' : ∀ u ∈ L,u < fs * rs := fun d hd => hl d (List.mem_cons_of_mem _ hd)
    have ei : Builtin.bitAnd (mk (fs * rs) (betw fs rs (kingOf b s) u)) (mk (fs * rs) fun t => occB b t ^^ snipB fs rs b s t) = mk (fs * rs) (inP fs rs b s u) := by rw [and_mk]; rfl
    have skip : one1 fs rs b s u = false → ∀ t,(q t || L.any fun u => one1 fs rs b s u && inP fs rs b s u t) = shB fs rs b s t := fun z t => by
      have := hq t
      rw [List.any_cons,z] at this; exact this
    have take : one1 fs rs b s u = true → ∀ t,((q t || inP fs rs b s u t) || L.any fun u => one1 fs rs b s u && inP fs rs b s u t) = shB fs rs b s t := fun z t => by
      have := hq t
      rw [List.any_cons,z] at this; rw [Bool.or_assoc]; exact this
    refine ⟨stable_of (last_get h _),rfl,_,rfl,_,ga,_,rfl,_,rfl,_,_,t13 G D (by decide) rfl rfl kl hu,_,rfl,rfl,V.int (mk (fs * rs) (inP fs rs b s u)),(by rw [ei]; rfl),fun n0 => ⟨_,rfl,_,_,e6 (by decide),_,rfl,fun c => ?_,fun c => ?_⟩,fun n0 => ?_⟩
    · have h1 : one1 fs rs b s u = true := by
        rw [ei,more_one (brd_mk D.le _) n0,sq_mk D.le,Bool.not_not] at c; exact c
      refine ⟨_,rfl,V.int (mk (fs * rs) (inP fs rs b s u)),(by rw [ei]; rfl),V.int (mk (fs * rs) (inP fs rs b s u)),(by rw [ei]; rfl),_,rfl,_,a1,_,rfl,_,e1 z s hz hs,fun _ => ⟨_,rfl,_,rfl,_,shl_ok (c := u) rfl (small_le D hu) rfl,?_⟩,fun _ => ?_⟩
      · exact ⟨⟨_,_,_,_,by rw [or_mk]; rfl,take h1⟩,rfl,hl'⟩
      · exact ⟨⟨_,_,_,_,by rw [or_mk]; rfl,take h1⟩,rfl,hl'⟩
    · have h1 : one1 fs rs b s u = false := by
        rw [ei,more_one (brd_mk D.le _) n0,sq_mk D.le,Bool.not_not] at c; exact c
      exact ⟨⟨_,_,_,_,rfl,skip h1⟩,rfl,hl'⟩
    · have h1 : one1 fs rs b s u = false := by
        unfold one1
        rw [List.filter_eq_nil_iff.mpr fun t ht => by rw [mk_eq_zero.mp n0 t (List.mem_range.mp ht)]; decide]; rfl
      exact ⟨fun z => absurd n0 z,fun _ => ⟨⟨_,_,_,_,rfl,skip h1⟩,rfl,hl'⟩⟩
  · obtain ⟨⟨q,w,o7,o8,rfl,hq⟩,rfl,hl⟩ := j
    refine ⟨stable_of (last_get h _),_,rfl,_,rfl,rfl,pre_app pre _,?_⟩
    refine sub_tup (xs := [.int _,.int _]) (last_get _ _) (by decide) (by decide) ?_
    show some (V.int (mk (fs * rs) q)) = _
    rw [mk_congr fun t _ => ?_]
    rw [← hq t]; exact (Bool.or_false _).symm
end
theorem new_get0 (h : H) (c : Nat) (fs : List (Nat × V)) : (h ++ [O.inst c (h.length + 1),.dct fs])[h.length]? = some (.inst c (h.length + 1)) := by
  rw [List.getElem?_append_right (Nat.le_refl _),Nat.sub_self]; rfl
theorem new_get1 (h : H) (c : Nat) (fs : List (Nat × V)) : (h ++ [O.inst c (h.length + 1),.dct fs])[h.length + 1]? = some (.dct fs) := by
  rw [List.getElem?_append_right (show h.length ≤ h.length + 1 from Nat.le_succ h.length),Nat.add_sub_cancel_left]; rfl
theorem new_attr (h : H) (c : Nat) (fs : List (Nat × V)) (k : Nat) : getAttr (h ++ [O.inst c (h.length + 1),.dct fs]) (.ref h.length) k = lookF k fs := by
  exact bC_mk (new_get0 h c fs) (bD_mk (new_get1 h c fs) rfl)
theorem new_set (h : H) (c : Nat) (fs : List (Nat × V)) (k : Nat) (x : V) (hl : Nat.blt fs.length 100 = true) : setAttr (h ++ [O.inst c (h.length + 1),.dct fs]) (.ref h.length) k x = some (h ++ [O.inst c (h.length + 1),.dct (putF k x fs)]) := by
  refine bC_mk (new_get0 h c fs) (bD_mk (new_get1 h c fs) ((if_pos (show fs.length < 100 from Nat.le_of_ble_eq_true hl)).trans ?_))
  rw [List.set_append,if_neg (Nat.not_lt_of_le (Nat.le_succ h.length)),Nat.add_sub_cancel_left]; rfl
theorem set_lst {h : H} {a k : Nat} {xs : List V} {x : Int} {v : V} (e : h[a]? = some (.lst xs)) (hx : x = k) (hk : k < xs.length) (hm : k ≤ 1000000) : setSub h (.ref a) (.int x) v = some (h.set a (.lst (xs.set k v))) := by
  subst hx
  refine bL_mk e ((if_pos ?_).trans ?_)
  · rw [decide_eq_true (Int.natCast_nonneg k),decide_eq_true (show (k : Int) ≤ 1000000 from Int.ofNat_le.mpr hm),Int.toNat_natCast,decide_eq_true hk]; rfl
  · rw [Int.toNat_natCast]
theorem app_lst {C : Nat → Option O} {h : H} {a : Nat} {xs : List V} {v : V} (e : h[a]? = some (.lst xs)) (hk : xs.length < 1000) : methV C 0 (.ref a) v h = some (.none,h.set a (.lst (xs ++ [v]))) := by
  exact bL_mk e (if_pos (show xs.length < lenMax from Nat.lt_trans hk (by decide)))
theorem set_get {h : H} {a : Nat} {o o' : O} (e : h[a]? = some o) : (h.set a o')[a]? = some o' := List.getElem?_set_self (List.getElem?_eq_some_iff.mp e).1
theorem set_ne {h : H} {a c : Nat} {o : O} (n : a ≠ c) : (h.set a o)[c]? = h[c]? := List.getElem?_set_ne n
noncomputable def l7 (N : Nat) (B : Nat → Nat → Bool) : List Int := (List.range 7).map fun k => mk N (B k)
theorem l7_at {N : Nat} {B : Nat → Nat → Bool} {k : Nat} (hk : k < 7) : (l7 N B)[k]? = some (mk N (B k)) := by
  unfold l7; rw [List.getElem?_map,List.getElem?_range hk]; rfl
theorem l7_len (N : Nat) (B : Nat → Nat → Bool) : (l7 N B).length = 7 := by unfold l7; rw [List.length_map,List.length_range]
theorem l7_set {N : Nat} {B : Nat → Nat → Bool} {k : Nat} {p : Nat → Bool} : ((l7 N B).map V.int).set k (.int (mk N p)) = (l7 N fun j t => if j = k then p t else B j t).map V.int := by
  rw [← List.map_set]
  congr 1
  refine List.ext_getElem? fun i => ?_
  by_cases hi : i < 7
  · rw [List.getElem?_set,l7_at hi,l7_at hi,l7_len]
    by_cases e : k = i
    · subst e; rw [if_pos rfl,if_pos hi]; simp
    · rw [if_neg e]; simp [show ¬ i = k from fun z => e z.symm]
  · rw [List.getElem?_eq_none (by rw [List.length_set,l7_len]; exact Nat.le_of_not_lt hi),List.getElem?_eq_none (by rw [l7_len]; exact Nat.le_of_not_lt hi)]
theorem l7_congr {N : Nat} {B B' : Nat → Nat → Bool} (e : ∀ k,k < 7 → ∀ t,t < N → B k t = B' k t) : l7 N B = l7 N B' := by
  unfold l7; exact List.map_congr_left fun k hk => mk_congr fun t ht => e k (List.mem_range.mp hk) t ht
noncomputable def rfW (fs rs : Nat) (b : List Nat) (s : Nat) (w : Nat × Nat) (t : Nat) : Bool := lineUp fs rs b s w.1 w.2 (shB fs rs b s) t
noncomputable def byW (fs rs : Nat) (b : List Nat) (s : Nat) (W : List (Nat × Nat)) (k t : Nat) : Bool := match k with
  | 0 => W.any fun w => rfW fs rs b s w t
  | k => W.any fun w => Nat.beq w.1 k && rfW fs rs b s w t
noncomputable def numW (fs rs : Nat) (b : List Nat) (s : Nat) (W : List (Nat × Nat)) (t : Nat) : Nat := W.countP fun w => rfW fs rs b s w t
noncomputable def allW (fs rs : Nat) (b : List Nat) (s : Nat) : List (Nat × Nat) := [1,2,3,4,5,6].flatMap fun k => ((List.range (fs * rs)).filter (isK b s k)).map fun q => (k,q)
structure AtkAt (C : Nat → Option O) (h : H) (m : V) (fs rs : Nat) (b : List Nat) (s : Nat) : Prop where
  by_ : ∃ v,getAttr h m 25 = some v ∧ IntL C h v (l7 (fs * rs) (byW fs rs b s (allW fs rs b s)))
  tw : getAttr h m 26 = some (.int (mk (fs * rs) fun t => Nat.blt 1 (numW fs rs b s (allW fs rs b s) t)))
  sh : getAttr h m 28 = some (.int (mk (fs * rs) (shB fs rs b s)))
theorem AtkAt.mono {C : Nat → Option O} {B h : H} {m : V} {fs rs : Nat} {b : List Nat} {s : Nat} (pre : B <+: h) (x : AtkAt C B m fs rs b s) : AtkAt C h m fs rs b s := by
  obtain ⟨⟨v,a1,a2⟩,a3,a4⟩ := x
  exact ⟨⟨v,attr_pre pre a1,a2.mono pre⟩,attr_pre pre a3,attr_pre pre a4⟩
theorem numW_pos {fs rs : Nat} {b : List Nat} {s : Nat} {W : List (Nat × Nat)} {t : Nat} : byW fs rs b s W 0 t = Nat.blt 0 (numW fs rs b s W t) := by
  show (W.any fun w => rfW fs rs b s w t) = _
  rw [Bool.eq_iff_iff,List.any_eq_true,Nat.blt_eq,numW,List.countP_pos_iff]
theorem allW_len (fs rs : Nat) (b : List Nat) (s : Nat) : (allW fs rs b s).length ≤ 6 * (fs * rs) := by
  have key : ∀ k,(((List.range (fs * rs)).filter (isK b s k)).map fun q => (k,q)).length ≤ fs * rs := fun k => by
    rw [List.length_map]; have := List.length_filter_le (isK b s k) (List.range (fs * rs)); rwa [List.length_range] at this
  have : ∀ l : List Nat,(l.flatMap fun k => ((List.range (fs * rs)).filter (isK b s k)).map fun q => (k,q)).length ≤ l.length * (fs * rs) := by
    intro l
    induction l with
    | nil => simp
    | cons x r ih =>
      rw [List.flatMap_cons,List.length_append,List.length_cons,Nat.succ_mul]
      exact Nat.add_comm .. ▸ Nat.add_le_add ih (key x)
  exact this _
section
variable {sa : Nat} {zs : List Int} {n : Nat} {h : H}
theorem t3 (hn : 3 < n) {k y w r x : V} : callN (P0 sa zs) fnT n 3 [.ref h.length,k,y,w,r,x] (h ++ [.inst 3 (h.length + 1),.dct []]) = some (.none,h ++ [.inst 3 (h.length + 1),.dct [(9,k),(25,y),(26,w),(27,r),(28,x)]]) := by
  have key : Meets (P0 sa zs) n 3 [.ref h.length,k,y,w,r,x] (h ++ [.inst 3 (h.length + 1),.dct []]) fun v h' => v = .none ∧ h' = h ++ [.inst 3 (h.length + 1),.dct [(9,k),(25,y),(26,w),(27,r),(28,x)]] :=
    call_wp m3 hn ⟨rfl,_,rfl,_,rfl,_,new_set h 3 _ _ _ rfl,_,rfl,_,rfl,_,new_set h 3 _ _ _ rfl,_,rfl,_,rfl,_,new_set h 3 _ _ _ rfl,_,rfl,_,rfl,_,new_set h 3 _ _ _ rfl,_,rfl,_,rfl,_,new_set h 3 _ _ _ rfl,rfl,rfl⟩
  obtain ⟨v,h',e,rfl,rfl⟩ := key
  exact e
end
theorem mul_lst {C : Nat → Option O} {h : H} {a k : Nat} {x : V} {y : Int} (e : h[a]? = some (.lst [x])) (hy : y = k) (hk : k ≤ 1000) : binV C .Mult (.ref a) (.int y) h = some (.ref h.length,h ++ [.lst (List.replicate k x)]) := by
  subst hy
  refine bL_mk (X := h[a]?) e ((if_pos ?_).trans ?_)
  · rw [decide_eq_true (show [x].length * (k : Int).toNat ≤ lenMax by show 1 * (k : Int).toNat ≤ 1048576; rw [Int.toNat_natCast,Nat.one_mul]; exact Nat.le_trans hk (by decide)),decide_eq_true (Int.natCast_nonneg k)]; rfl
  · rw [Int.toNat_natCast]; rfl
noncomputable def upd (B : Nat → Nat → Bool) (k : Nat) (p : Nat → Bool) (j t : Nat) : Bool := if j = k then B k t || p t else B j t
theorem l7_or {C : Nat → Option O} {h : H} {a k N : Nat} {B : Nat → Nat → Bool} {x : Int} (p : Nat → Bool) (e : h[a]? = some (.lst ((l7 N B).map .int))) (hx : x = k) (hk : k < 7) :
    getSub C h (.ref a) (.int x) = some (.int (mk N (B k))) ∧ setSub h (.ref a) (.int x) (.int (Builtin.bitOr (mk N (B k)) (mk N p))) = some (h.set a (.lst ((l7 N (upd B k p)).map .int))) := by
  refine ⟨IntL.at (v := .ref a) e hx (big_lt hk) (l7_at hk),?_⟩
  rw [set_lst e hx (by rw [List.length_map,l7_len]; exact hk) (big_lt hk),or_mk,l7_set]; rfl
theorem l7_zero (N : Nat) : List.replicate 7 (V.int (Int.ofNat 0)) = (l7 N (byW 0 0 [] 0 [])).map .int := by
  have : l7 N (byW 0 0 [] 0 []) = List.replicate 7 0 := by
    unfold l7
    rw [show List.replicate 7 (0 : Int) = (List.range 7).map fun _ => 0 from rfl]
    refine List.map_congr_left fun k _ => mk_eq_zero.mpr fun t _ => ?_
    unfold byW; split <;> rfl
  rw [this]; rfl
theorem byW_nil (fs rs : Nat) (b : List Nat) (s k t : Nat) : byW fs rs b s [] k t = false := by unfold byW; split <;> rfl
theorem byW_add {fs rs : Nat} {b : List Nat} {s k q : Nat} {W : List (Nat × Nat)} (h1 : 1 ≤ k) (j t : Nat) :
    upd (upd (byW fs rs b s W) k (rfW fs rs b s (k,q))) 0 (rfW fs rs b s (k,q)) j t = byW fs rs b s (W ++ [(k,q)]) j t := by
  unfold upd
  match j with
  | 0 =>
    rw [if_pos rfl,if_neg (Nat.ne_of_lt h1)]
    show ((W.any fun w => rfW fs rs b s w t) || _) = ((W ++ [(k,q)]).any fun w => rfW fs rs b s w t)
    rw [List.any_append,List.any_cons,List.any_nil,Bool.or_false]
  | j + 1 =>
    rw [if_neg (Nat.succ_ne_zero j)]
    show _ = ((W ++ [(k,q)]).any fun w => Nat.beq w.1 (j + 1) && rfW fs rs b s w t)
    rw [List.any_append,List.any_cons,List.any_nil,Bool.or_false]
    by_cases e : j + 1 = k
    · subst e
      rw [if_pos rfl,Nat.beq_refl,Bool.true_and]; rfl
    · rw [if_neg e,beq_ff.mpr (show k ≠ j + 1 from fun z => e z.symm),Bool.false_and,Bool.or_false]; rfl
theorem tw_add {fs rs : Nat} {b : List Nat} {s k q : Nat} {W : List (Nat × Nat)} (t : Nat) :
    (Nat.blt 1 (numW fs rs b s W t) || (byW fs rs b s W 0 t && rfW fs rs b s (k,q) t)) = Nat.blt 1 (numW fs rs b s (W ++ [(k,q)]) t) := by
  rw [numW_pos]
  unfold numW
  rw [List.countP_append,List.countP_cons,List.countP_nil]
  generalize W.countP (fun w => rfW fs rs b s w t) = c
  rw [Bool.eq_iff_iff]
  cases rfW fs rs b s (k,q) t <;> simp only [Bool.or_eq_true,Bool.and_eq_true,Nat.blt_eq,if_true] <;> simp <;> (first | lia | omega)
noncomputable def prs43 (fs rs : Nat) (b : List Nat) (s k : Nat) : List (Nat × Nat) := ((List.range (fs * rs)).filter (isK b s k)).map fun q => (k,q)
inductive St43 (h : H) (fs rs : Nat) (b : List Nat) (s : Nat) (h' : H) (a3 a5 : Nat) (W : List (Nat × Nat)) : Prop
  | mk (c0 : h <+: h') (c1 : h.length ≤ a3 ∧ h.length ≤ a5 ∧ a3 ≠ a5) (c2 : h'[a3]? = some (.lst ((l7 (fs * rs) (byW fs rs b s W)).map .int))) (re : List V) (c3 : h'[a5]? = some (.lst re)) (c4 : re.length ≤ W.length) : St43 h fs rs b s h' a3 a5 W
inductive J43a (p : V) (fs : Nat) (rs : Nat) (b : List Nat) (z : Int) (s : Nat) (h : H) (a3 : Nat) (a5 : Nat) (K : List Nat) (σ : Sig) (h' : H) : Prop
  | mk (W : List (Nat × Nat)) (c0 : ∃ o6 o7 o8,σ = [some p,some (.int z),some (.int (mk (fs * rs) (shB fs rs b s))),some (.ref a3),some (.int (mk (fs * rs) fun t => Nat.blt 1 (numW fs rs b s W t))),some (.ref a5),o6,o7,o8]) (c1 : St43 h fs rs b s h' a3 a5 W) (c2 : W ++ K.flatMap (prs43 fs rs b s) = allW fs rs b s) (c3 : ∀ k ∈ K,1 ≤ k ∧ k < 7) : J43a p fs rs b z s h a3 a5 K σ h'
inductive J43b (p : V) (fs : Nat) (rs : Nat) (b : List Nat) (z : Int) (s : Nat) (h : H) (a3 : Nat) (a5 : Nat) (k : Nat) (K : List Nat) (h' : H) (L : List Nat) (σ : Sig) (h'' : H) : Prop
  | mk (W : List (Nat × Nat)) (c0 : ∃ o7 o8,σ = [some p,some (.int z),some (.int (mk (fs * rs) (shB fs rs b s))),some (.ref a3),some (.int (mk (fs * rs) fun t => Nat.blt 1 (numW fs rs b s W t))),some (.ref a5),some (vN k),o7,o8]) (c1 : St43 h fs rs b s h'' a3 a5 W) (c2 : W ++ (L.map (fun q => (k,q)) ++ K.flatMap (prs43 fs rs b s)) = allW fs rs b s) (c3 : h''[h'.length]? = some (.lst (((List.range (fs * rs)).filter (isK b s k)).map vN))) (c4 : ∀ q ∈ L,q < fs * rs) : J43b p fs rs b z s h a3 a5 k K h' L σ h''
section
variable {sa : Nat} {zs : List Int} {n : Nat} {h : H}
variable {p : V} {fs rs : Nat} {hd : Bool} {b : List Nat} (Z : PosAt (P0 sa zs).C h p fs rs hd b) (Y : Good fs rs b)
include Z Y
theorem t43 (hn : 43 < n) {z : Int} {s : Nat} (hz : z = s) (hs : s < 2) : Meets (P0 sa zs) n 43 [p,.int z] h fun v h' => h <+: h' ∧ AtkAt (P0 sa zs).C h' v fs rs b s := by
  have D := Y.dim
  obtain ⟨v36,h1,e36,pre1,s36⟩ := t36 (n := 43) Z Y (by decide) hz hs
  have hlen := allW_len fs rs b s
  have hN := D.size.2
  let a3 := (h1 ++ [O.lst [V.int (Int.ofNat 0)]]).length
  let a5 := (h1 ++ [O.lst [V.int (Int.ofNat 0)]] ++ [O.lst (List.replicate 7 (V.int (Int.ofNat 0)))]).length
  have ha : a5 = a3 + 1 := List.length_append
  have hb : h.length ≤ a3 := Nat.le_trans (pre_len pre1) (by show _ ≤ (h1 ++ _).length; rw [List.length_append]; exact Nat.le_add_right ..)
  have St0 : St43 h fs rs b s (h1 ++ [O.lst [V.int (Int.ofNat 0)]] ++ [O.lst (List.replicate 7 (V.int (Int.ofNat 0)))] ++ [O.lst []]) a3 a5 [] := by
    refine ⟨pre_app (pre_app (pre_app pre1 _) _) _,⟨hb,ha ▸ Nat.le_succ_of_le hb,ha ▸ Nat.ne_of_lt (Nat.lt_succ_self a3)⟩,get_pre (List.prefix_append _ _) ?_,[],last_get _ _,Nat.le_refl _⟩
    rw [last_get,l7_zero (fs * rs)]
    rw [l7_congr fun k _ t _ => (byW_nil 0 0 [] 0 k t).trans (byW_nil fs rs b s k t).symm]
  refine call_wp m43 hn ⟨rfl,_,rfl,_,rfl,_,_,e36,_,s36,rfl,rfl,_,_,mul_lst (k := 7) (last_get h1 _) rfl (by decide),rfl,rfl,rfl,rfl,rfl,
    forN_wp (L := [1,2,3,4,5,6]) (J43a p fs rs b z s h a3 a5) _ (fun k K σ h' j => ?_) (fun σ h' j => ?_) rfl
    ⟨[],⟨none,none,none,by rw [show (fun t => Nat.blt 1 (numW fs rs b s [] t)) = fun _ => false from rfl,mk_nil]; rfl⟩,St0,rfl,by decide⟩⟩
  · obtain ⟨W,⟨o6,o7,o8,rfl⟩,⟨q1,q2,q3,re,q4,q5⟩,hW,hK⟩ := j
    have hk := hK k List.mem_cons_self
    have hK' : ∀ k ∈ K,1 ≤ k ∧ k < 7 := fun k hk => hK k (List.mem_cons_of_mem _ hk)
    have l3 := (List.getElem?_eq_some_iff.mp q3).1
    have l5 := (List.getElem?_eq_some_iff.mp q4).1
    have pr := List.prefix_append h' [O.lst (((List.range (fs * rs)).filter (isK b s k)).map vN)]
    refine ⟨rfl,rfl,_,rfl,_,rfl,_,rfl,_,_,t31 (Z.mono q1) (by decide) hz hs rfl hk,_,_,e9 (by decide) D.le rfl,_,_,last_get h' _,rfl,
      forN_wp (L := (List.range (fs * rs)).filter (isK b s k)) (J43b p fs rs b z s h a3 a5 k K h') _ (fun q L σ h'' j => ?_) (fun σ h'' j => ?_) rfl
      ⟨W,⟨_,_,rfl⟩,⟨q1.trans pr,q2,get_pre pr q3,re,get_pre pr q4,q5⟩,by rw [← hW,List.flatMap_cons]; rfl,last_get h' _,fun q hq => List.mem_range.mp (List.mem_filter.mp hq).1⟩⟩
    · obtain ⟨W,⟨o7,o8,rfl⟩,⟨q1,q2,q3,re,q4,q5⟩,hW,q6,hL⟩ := j
      have hq := hL q List.mem_cons_self
      have hL' : ∀ q ∈ L,q < fs * rs := fun k hk => hL k (List.mem_cons_of_mem _ hk)
      have hWl : W.length ≤ 180 := by
        have e := congrArg List.length hW
        rw [List.length_append] at e; exact Nat.le_trans (e ▸ Nat.le_add_right ..) (Nat.le_trans hlen (Nat.mul_le_mul_left 6 hN))
      have hW' : (W ++ [(k,q)]) ++ (L.map (fun q => (k,q)) ++ K.flatMap (prs43 fs rs b s)) = allW fs rs b s := by rw [← hW,List.map_cons,List.append_assoc]; rfl
      have g0 := l7_or (C := (P0 sa zs).C) (k := 0) (x := Int.ofNat 0) (rfW fs rs b s (k,q)) q3 rfl (by decide)
      have g1 := l7_or (C := (P0 sa zs).C) (k := k) (x := (k : Int)) (rfW fs rs b s (k,q)) q3 rfl hk.2
      have g2 := l7_or (C := (P0 sa zs).C) (k := 0) (x := Int.ofNat 0) (rfW fs rs b s (k,q)) (set_get (o' := .lst ((l7 (fs * rs) (upd (byW fs rs b s W) k (rfW fs rs b s (k,q)))).map .int)) q3) rfl (by decide)
      have n39 : a3 ≠ h'.length := Nat.ne_of_lt l3
      have n59 : a5 ≠ h'.length := Nat.ne_of_lt l5
      have f3 : ((h''.set a3 (.lst ((l7 (fs * rs) (upd (byW fs rs b s W) k (rfW fs rs b s (k,q)))).map .int))).set a3 (.lst ((l7 (fs * rs) (upd (upd (byW fs rs b s W) k (rfW fs rs b s (k,q))) 0 (rfW fs rs b s (k,q)))).map .int)))[a3]? = some (.lst ((l7 (fs * rs) (byW fs rs b s (W ++ [(k,q)]))).map .int)) := by
        rw [set_get (set_get q3),l7_congr fun j _ t _ => byW_add hk.1 j t]
      have f5 : ((h''.set a3 (.lst ((l7 (fs * rs) (upd (byW fs rs b s W) k (rfW fs rs b s (k,q)))).map .int))).set a3 (.lst ((l7 (fs * rs) (upd (upd (byW fs rs b s W) k (rfW fs rs b s (k,q))) 0 (rfW fs rs b s (k,q)))).map .int)))[a5]? = some (.lst re) := by
        rw [set_ne q2.2.2,set_ne q2.2.2,q4]
      have f9 : ((h''.set a3 (.lst ((l7 (fs * rs) (upd (byW fs rs b s W) k (rfW fs rs b s (k,q)))).map .int))).set a3 (.lst ((l7 (fs * rs) (upd (upd (byW fs rs b s W) k (rfW fs rs b s (k,q))) 0 (rfW fs rs b s (k,q)))).map .int)))[h'.length]? = some (.lst (((List.range (fs * rs)).filter (isK b s k)).map vN)) := by
        rw [set_ne n39,set_ne n39,q6]
      have fp := pre_set (pre_set q1 q2.1 (.lst ((l7 (fs * rs) (upd (byW fs rs b s W) k (rfW fs rs b s (k,q)))).map .int))) q2.1 (.lst ((l7 (fs * rs) (upd (upd (byW fs rs b s W) k (rfW fs rs b s (k,q))) 0 (rfW fs rs b s (k,q)))).map .int))
      have tw : Builtin.bitOr (mk (fs * rs) fun t => Nat.blt 1 (numW fs rs b s W t)) (Builtin.bitAnd (mk (fs * rs) (byW fs rs b s W 0)) (mk (fs * rs) (rfW fs rs b s (k,q)))) = mk (fs * rs) fun t => Nat.blt 1 (numW fs rs b s (W ++ [(k,q)]) t) := by
        rw [and_mk,or_mk]; exact mk_congr fun t _ => tw_add t
      have fin : ∀ {σ : Sig} {X : Int} {o7 o8 : Option V},X = (mk (fs * rs) fun t => Nat.blt 1 (numW fs rs b s (W ++ [(k,q)]) t)) → σ = [some p,some (.int z),some (.int (mk (fs * rs) (shB fs rs b s))),some (.ref a3),some (.int X),some (.ref a5),some (vN k),o7,o8] →
        ∀ {h4 : H},h <+: h4 → h4[a3]? = some (.lst ((l7 (fs * rs) (byW fs rs b s (W ++ [(k,q)]))).map .int)) → ∀ {re'},h4[a5]? = some (.lst re') → re'.length ≤ W.length + 1 → h4[h'.length]? = some (.lst (((List.range (fs * rs)).filter (isK b s k)).map vN)) →
        J43b p fs rs b z s h a3 a5 k K h' L σ h4 := by
        intro σ X o7 o8 hX hσ h4 y1 y2 re' y3 y4 y5
        subst hX
        exact ⟨W ++ [(k,q)],⟨_,_,hσ⟩,⟨y1,q2,y2,re',y3,by rw [List.length_append]; exact y4⟩,hW',y5,hL'⟩
      refine ⟨stable_of q6,rfl,_,rfl,_,rfl,_,rfl,_,rfl,_,rfl,_,_,t42 (Z.mono q1) Y (by decide) hz hs rfl hk rfl hq rfl,rfl,
        _,rfl,_,rfl,_,g0.1,_,rfl,_,rfl,_,rfl,_,g1.1,_,rfl,_,g1.2,_,rfl,_,g2.1,_,rfl,_,g2.2,_,rfl,fun c1 => ⟨_,rfl,fun c2 => ⟨_,rfl,_,f5,_,rfl,_,rfl,rfl,_,_,app_lst (get_pre (List.prefix_append _ _) f5) (Nat.lt_of_le_of_lt (Nat.le_trans q5 hWl) (by decide)),rfl,?_⟩,fun c2 => ?_⟩,fun c1 => ⟨fun c2 => (by rw [c1] at c2; cases c2),fun _ => ?_⟩⟩
      · refine fin tw rfl (pre_set (pre_app fp _) q2.2.1 _) ?_ (set_get (get_pre (List.prefix_append _ _) f5)) (by rw [List.length_append]; exact Nat.succ_le_succ q5) ?_
        · rw [set_ne q2.2.2.symm]; exact get_pre (List.prefix_append _ _) f3
        · rw [set_ne n59]; exact get_pre (List.prefix_append _ _) f9
      · exact fin tw rfl fp f3 f5 (Nat.le_succ_of_le q5) f9
      · exact fin tw rfl fp f3 f5 (Nat.le_succ_of_le q5) f9
    · obtain ⟨W,⟨o7,o8,rfl⟩,st,hW,q6,hL⟩ := j
      exact ⟨stable_of q6,W,⟨_,_,_,rfl⟩,st,hW,hK'⟩
  · obtain ⟨W,⟨o6,o7,o8,rfl⟩,⟨q1,q2,q3,re,q4,q5⟩,hW,hK⟩ := j
    rw [List.flatMap_nil,List.append_nil] at hW
    subst hW
    refine ⟨rfl,_,rfl,_,rfl,_,_,t32 (Z.mono q1) Y (by decide) hz hs,_,rfl,_,rfl,_,rfl,_,rfl,_,t3 (by decide),pre_app q1 _,⟨.ref a3,by rw [new_attr]; rfl,get_pre (List.prefix_append _ _) q3⟩,by rw [new_attr]; rfl,by rw [new_attr]; rfl⟩
theorem t44 (hn : 44 < n) : Meets (P0 sa zs) n 44 [p] h fun v h' => h <+: h' ∧ ∀ (x : Int) (s : Nat),x = s → s < 2 → ∃ m,getSub (P0 sa zs).C h' v (.int x) = some m ∧ AtkAt (P0 sa zs).C h' m fs rs b s := by
  obtain ⟨m0,h1,e1,p1,A0⟩ := t43 (n := 44) Z Y (by decide) (z := Int.ofNat 0) (s := 0) rfl (by decide)
  obtain ⟨m1,h2,e2,p2,A1⟩ := t43 (n := 44) (Z.mono p1) Y (by decide) (z := Int.ofNat 1) (s := 1) rfl (by decide)
  refine call_wp m44 hn ⟨rfl,_,rfl,_,_,e1,_,rfl,_,_,e2,rfl,(p1.trans p2).trans (List.prefix_append _ _),fun x s hx hs => ?_⟩
  subst hx
  match s,hs with
  | 0,_ => exact ⟨m0,sub_lst (xs := [m0,m1]) (last_get _ _) (by decide) (by decide) rfl,A0.mono (p2.trans (List.prefix_append _ _))⟩
  | 1,_ => exact ⟨m1,sub_lst (xs := [m0,m1]) (last_get _ _) (by decide) (by decide) rfl,A1.mono (List.prefix_append _ _)⟩
end
section
variable (fs rs : Nat) (b : List Nat)
noncomputable def byA (s k t : Nat) : Bool := byW fs rs b s (allW fs rs b s) k t
noncomputable def twA (s t : Nat) : Bool := Nat.blt 1 (numW fs rs b s (allW fs rs b s) t)
noncomputable def strongB (s t : Nat) : Bool := byA fs rs b (1 - s) 1 t || (twA fs rs b (1 - s) t && !twA fs rs b s t)
noncomputable def offB (s t : Nat) : Bool := ownB b (1 - s) t && !kindB b 1 t
noncomputable def weakB (s t : Nat) : Bool := (ownB b (1 - s) t && !strongB fs rs b s t) && byA fs rs b s 0 t
noncomputable def hangB (s t : Nat) : Bool := weakB fs rs b s t && (!byA fs rs b (1 - s) 0 t || (offB b s t && twA fs rs b s t))
noncomputable def lessB (s t : Nat) : Bool := (weakB fs rs b s t || (offB b s t && strongB fs rs b s t)) && (byA fs rs b s 2 t || byA fs rs b s 3 t)
noncomputable def restB (s t : Nat) : Bool := (byA fs rs b (1 - s) 0 t && !strongB fs rs b s t) && byA fs rs b s 0 t
noncomputable def hitsB (s : Nat) (p : Nat → Bool) (t : Nat) : Bool := upB fs rs s (nbB fs rs p) t && offB b s t
noncomputable def safeB (s t : Nat) : Bool := !byA fs rs b (1 - s) 0 t || byA fs rs b s 0 t
noncomputable def push1 (s t : Nat) : Bool := upB fs rs s (isK b s 1) t && !occB b t
noncomputable def push2 (s t : Nat) : Bool := push1 fs rs b s t || (upB fs rs s (fun t => push1 fs rs b s t && Nat.beq (rkS fs rs s t) 2) t && !occB b t)
noncomputable def pushB (dbl : Bool) (s t : Nat) : Bool := ((match dbl with
  | true => push2 fs rs b s t
  | false => push1 fs rs b s t) && !byA fs rs b (1 - s) 1 t) && safeB fs rs b s t
end
noncomputable def MapsAt (C : Nat → Option O) (h : H) (maps : V) (fs rs : Nat) (b : List Nat) : Prop := ∀ (x : Int) (s : Nat),x = s → s < 2 → ∃ m,getSub C h maps (.int x) = some m ∧ AtkAt C h m fs rs b s
theorem sub_pre {C : Nat → Option O} {B h : H} (p : B <+: h) {v i x : V} (e : getSub C B v i = some x) : getSub C h v i = some x := by
  obtain ⟨xs,e1 | e1,e⟩ := bS_inv e
  · exact bS_l (obj_pre p e1) e
  · exact bS_t (obj_pre p e1) e
theorem MapsAt.mono {C : Nat → Option O} {B h : H} {maps : V} {fs rs : Nat} {b : List Nat} (p : B <+: h) (x : MapsAt C B maps fs rs b) : MapsAt C h maps fs rs b := fun y s hy hs => by
  obtain ⟨m,e,A⟩ := x y s hy hs
  exact ⟨m,sub_pre p e,A.mono p⟩
section
variable {sa : Nat} {zs : List Int} {n : Nat} {h : H} {maps : V} {fs rs : Nat} {b : List Nat}
theorem atk_by {m : V} {s : Nat} (A : AtkAt (P0 sa zs).C h m fs rs b s) : ∃ v,getAttr h m 25 = some v ∧ ∀ (x : Int) (k : Nat),x = k → k < 7 → getSub (P0 sa zs).C h v (.int x) = some (.int (mk (fs * rs) (byA fs rs b s k))) := by
  obtain ⟨v,a,e⟩ := A.by_
  exact ⟨v,a,fun x k hx hk => e.at hx (big_lt hk) (l7_at hk)⟩
section
variable (M : MapsAt (P0 sa zs).C h maps fs rs b)
include M
theorem t47' (hn : 47 < n) {z : Int} {s : Nat} (hz : z = s) (hs : s < 2) : callN (P0 sa zs) fnT n 47 [.int z,maps] h = some (.int (mk (fs * rs) (strongB fs rs b s)),h) := by
  obtain ⟨m,g1,A⟩ := M z s hz hs
  obtain ⟨m',g1',A'⟩ := M _ _ (one_sub hz hs) one_lt
  obtain ⟨v',a',e'⟩ := atk_by A'
  exact gives_of (call_wp m47 hn ⟨rfl,_,rfl,_,rfl,_,g1,rfl,_,rfl,_,rfl,_,g1',rfl,_,rfl,_,a',_,e' _ 1 rfl (by decide),_,rfl,_,A'.tw,_,rfl,_,A.tw,_,rfl,by rw [andn_mk,or_mk]; rfl,rfl⟩)
theorem t52 (hn : 52 < n) {z : Int} {s : Nat} (hz : z = s) (hs : s < 2) : callN (P0 sa zs) fnT n 52 [.int z,maps] h = some (.int (mk (fs * rs) (restB fs rs b s)),h) := by
  obtain ⟨m,g1,A⟩ := M z s hz hs
  obtain ⟨m',g1',A'⟩ := M _ _ (one_sub hz hs) one_lt
  obtain ⟨v,a,e⟩ := atk_by A
  obtain ⟨v',a',e'⟩ := atk_by A'
  exact gives_of (call_wp m52 hn ⟨rfl,_,rfl,_,rfl,_,g1',_,a',_,e' _ 0 rfl (by decide),_,rfl,_,rfl,_,_,t47' M (by decide) hz hs,_,rfl,_,rfl,_,rfl,_,g1,_,a,_,e _ 0 rfl (by decide),by rw [andn_mk,and_mk]; rfl,rfl⟩)
end
variable {p : V} {hd : Bool} (Z : PosAt (P0 sa zs).C h p fs rs hd b) (Y : Good fs rs b) (M : MapsAt (P0 sa zs).C h maps fs rs b)
include Z
theorem t48 (hn : 48 < n) {z : Int} {s : Nat} (hz : z = s) (hs : s < 2) : callN (P0 sa zs) fnT n 48 [p,.int z] h = some (.int (mk (fs * rs) (offB b s)),h) := by
  obtain ⟨v,a,e⟩ := pos_sd Z
  obtain ⟨w,c,f⟩ := pos_kd Z
  exact gives_of (call_wp m48 hn ⟨rfl,_,rfl,_,a,_,rfl,_,e _ _ (one_sub hz hs) one_lt,_,rfl,_,c,_,f _ 1 rfl (by decide),_,rfl,by rw [andn_mk]; rfl,rfl⟩)
include M
theorem t49 (hn : 49 < n) {z : Int} {s : Nat} (hz : z = s) (hs : s < 2) : callN (P0 sa zs) fnT n 49 [p,.int z,maps] h = some (.int (mk (fs * rs) (weakB fs rs b s)),h) := by
  obtain ⟨v,a,e⟩ := pos_sd Z
  obtain ⟨m,g1,A⟩ := M z s hz hs
  obtain ⟨w,c,f⟩ := atk_by A
  exact gives_of (call_wp m49 hn ⟨rfl,_,rfl,_,a,_,rfl,_,e _ _ (one_sub hz hs) one_lt,_,rfl,_,rfl,_,_,t47' M (by decide) hz hs,_,rfl,_,rfl,_,rfl,_,g1,_,c,_,f _ 0 rfl (by decide),by rw [andn_mk,and_mk]; rfl,rfl⟩)
theorem t50 (hn : 50 < n) {z : Int} {s : Nat} (hz : z = s) (hs : s < 2) : callN (P0 sa zs) fnT n 50 [p,.int z,maps] h = some (.int (mk (fs * rs) (hangB fs rs b s)),h) := by
  obtain ⟨m,g1,A⟩ := M z s hz hs
  obtain ⟨m',g1',A'⟩ := M _ _ (one_sub hz hs) one_lt
  obtain ⟨v',a',e'⟩ := atk_by A'
  exact gives_of (call_wp m50 hn ⟨rfl,_,rfl,_,rfl,_,g1',_,a',_,e' _ 0 rfl (by decide),_,rfl,_,rfl,_,rfl,_,_,t48 Z (by decide) hz hs,_,rfl,_,rfl,_,g1,_,A.tw,rfl,
    _,rfl,_,rfl,_,rfl,_,_,t49 Z M (by decide) hz hs,_,rfl,by rw [and_mk,andon_mk]; rfl,rfl⟩)
theorem t51 (hn : 51 < n) {z : Int} {s : Nat} (hz : z = s) (hs : s < 2) : callN (P0 sa zs) fnT n 51 [p,.int z,maps] h = some (.int (mk (fs * rs) (lessB fs rs b s)),h) := by
  obtain ⟨m,g1,A⟩ := M z s hz hs
  obtain ⟨w,c,f⟩ := atk_by A
  exact gives_of (call_wp m51 hn ⟨rfl,_,rfl,_,rfl,_,_,t48 Z (by decide) hz hs,_,rfl,_,rfl,_,_,t47' M (by decide) hz hs,rfl,_,rfl,_,rfl,_,rfl,_,_,t49 Z M (by decide) hz hs,_,rfl,_,rfl,_,rfl,_,g1,_,c,_,f _ 2 rfl (by decide),
    _,rfl,_,rfl,_,g1,_,c,_,f _ 3 rfl (by decide),by rw [and_mk,or_mk,or_mk,and_mk]; rfl,rfl⟩)
omit M in
include Y in
theorem t53 (hn : 53 < n) {z X : Int} {s : Nat} {q : Nat → Bool} (hz : z = s) (hs : s < 2) (hX : X = mk (fs * rs) q) : callN (P0 sa zs) fnT n 53 [p,.int z,.int X] h = some (.int (mk (fs * rs) (hitsB fs rs b s q)),h) := by
  obtain ⟨g,ga,G⟩ := Z.geo
  exact gives_of (call_wp m53 hn ⟨rfl,_,rfl,_,ga,_,rfl,_,rfl,_,_,t39 G Y.dim (by decide) hz hs hX,_,rfl,_,rfl,_,_,t48 Z (by decide) hz hs,by rw [and_mk]; rfl,rfl⟩)
theorem t54 (hn : 54 < n) {z : Int} {s : Nat} (hz : z = s) (hs : s < 2) : callN (P0 sa zs) fnT n 54 [p,.int z,maps] h = some (.int (mk (fs * rs) (safeB fs rs b s)),h) := by
  obtain ⟨g,ga,G⟩ := Z.geo
  obtain ⟨m,g1,A⟩ := M z s hz hs
  obtain ⟨m',g1',A'⟩ := M _ _ (one_sub hz hs) one_lt
  obtain ⟨v,a,e⟩ := atk_by A
  obtain ⟨v',a',e'⟩ := atk_by A'
  exact gives_of (call_wp m54 hn ⟨rfl,_,rfl,_,ga,_,geo_fu G,_,rfl,_,rfl,_,g1',_,a',_,e' _ 0 rfl (by decide),_,rfl,_,rfl,_,rfl,_,g1,_,a,_,e _ 0 rfl (by decide),by rw [andon_mk]; rfl,rfl⟩)
include Y
theorem t55 (hn : 55 < n) {z : Int} {s : Nat} (hz : z = s) (hs : s < 2) : callN (P0 sa zs) fnT n 55 [p,.int z,maps] h = some (.int (mk (fs * rs) (pushB fs rs b (hd && Nat.ble 5 rs) s)),h) := by
  obtain ⟨g,ga,G⟩ := Z.geo
  have D := Y.dim
  have hr := D.2
  obtain ⟨m',g1',A'⟩ := M _ _ (one_sub hz hs) one_lt
  obtain ⟨v',a',e'⟩ := atk_by A'
  have e4 : Builtin.bitAnd (mk (fs * rs) fun _ => true) (Builtin.bitNot (mk (fs * rs) (occB b))) = mk (fs * rs) fun t => !occB b t := by rw [andn_mk]; rfl
  have e5 : Builtin.bitAnd (mk (fs * rs) (upB fs rs s (isK b s 1))) (Builtin.bitAnd (mk (fs * rs) fun _ => true) (Builtin.bitNot (mk (fs * rs) (occB b)))) = mk (fs * rs) (push1 fs rs b s) := by rw [e4,and_mk]; rfl
  have e6 : Builtin.bitAnd (Builtin.bitAnd (mk (fs * rs) (upB fs rs s (isK b s 1))) (Builtin.bitAnd (mk (fs * rs) fun _ => true) (Builtin.bitNot (mk (fs * rs) (occB b))))) (mk (fs * rs) fun t => Nat.beq (rkS fs rs s t) 2) = mk (fs * rs) fun t => push1 fs rs b s t && Nat.beq (rkS fs rs s t) 2 := by rw [e5,and_mk]
  refine gives_of (call_wp m55 hn ⟨rfl,_,rfl,_,ga,rfl,_,rfl,_,geo_fu G,_,rfl,_,_,t30 Z Y (by decide),_,rfl,rfl,_,rfl,_,rfl,_,rfl,_,_,t31 Z (by decide) hz hs (k := 1) rfl (by decide),_,rfl,_,_,t37 G D (by decide) hz hs rfl,_,rfl,rfl,
    _,rfl,_,G.dbl,fun q => ⟨_,rfl,_,rfl,_,rfl,_,rfl,_,rfl,_,_,t40 G D (by decide) hz hs (r := 2) rfl (Nat.lt_of_lt_of_le (by decide) D.2.1),_,rfl,_,_,t37 G D (by decide) hz hs e6,_,rfl,
      _,rfl,_,rfl,_,rfl,_,g1',_,a',_,e' _ 1 rfl (by decide),_,rfl,_,rfl,_,rfl,_,rfl,_,_,t54 Z M (by decide) hz hs,?_,rfl⟩,
    fun q => ⟨_,rfl,_,rfl,_,rfl,_,g1',_,a',_,e' _ 1 rfl (by decide),_,rfl,_,rfl,_,rfl,_,rfl,_,_,t54 Z M (by decide) hz hs,?_,rfl⟩⟩)
  · rw [q,e5,e4,and_mk,or_mk,andn_mk,and_mk]; rfl
  · rw [q,e5,andn_mk,and_mk]; rfl
end
noncomputable def oneL : List Nat → Option Nat
  | [q] => some q
  | _ => none
theorem oneL_inv {l : List Nat} {q : Nat} (h : oneL l = some q) : l = [q] := by
  cases l with
  | nil => exact nn h
  | cons x r => cases r with
    | nil => cases h; rfl
    | cons y r => exact nn h
theorem oneL_none {l : List Nat} (h : ¬ ∃ q,l = [q]) : oneL l = none := by
  cases l with
  | nil => rfl
  | cons x r => cases r with
    | nil => exact absurd ⟨x,rfl⟩ h
    | cons y r => rfl
section
variable (fs rs : Nat) (b : List Nat)
noncomputable def qnB (s : Nat) : Option Nat := oneL ((List.range (fs * rs)).filter (isK b (1 - s) 5))
noncomputable def roomB (s t : Nat) : Bool := (areaB fs rs b s (shB fs rs b s) t && !isK b s 1 t) && !strongB fs rs b s t
noncomputable def q1B (s t : Nat) : Bool := match qnB fs rs b s with
  | some q => (byA fs rs b s 2 t && (hopsL fs rs q jumpsL).contains t) && roomB fs rs b s t
  | none => false
noncomputable def q2B (s t : Nat) : Bool := match qnB fs rs b s with
  | some q => (((byA fs rs b s 3 t && slideP fs rs 3 q (occB b) t) || (byA fs rs b s 4 t && slideP fs rs 4 q (occB b) t)) && roomB fs rs b s t) && twA fs rs b s t
  | none => false
end
section
variable {sa : Nat} {zs : List Int} {n : Nat} {h : H} {maps : V} {fs rs : Nat} {b : List Nat}
variable {p : V} {hd : Bool} (Z : PosAt (P0 sa zs).C h p fs rs hd b) (Y : Good fs rs b) (M : MapsAt (P0 sa zs).C h maps fs rs b)
include Z Y M
theorem t56 (hn : 56 < n) {z : Int} {s : Nat} (hz : z = s) (hs : s < 2) : callN (P0 sa zs) fnT n 56 [p,.int z,maps] h = some (.ref h.length,h ++ [.tup [.int (mk (fs * rs) (q1B fs rs b s)),.int (mk (fs * rs) (q2B fs rs b s))]]) := by
  obtain ⟨g,ga,G⟩ := Z.geo
  have D := Y.dim
  obtain ⟨m,g1,A⟩ := M z s hz hs
  obtain ⟨v,a,e⟩ := atk_by A
  obtain ⟨kv,ka,kr⟩ := geo_kn G D
  have lenq : ∀ k : Nat,((k : Int) != Int.ofNat 1) = !Nat.beq k 1 := fun k => by
    rw [Bool.eq_iff_iff,bne_iff_ne,Bool.not_eq_true',beq_ff]; exact not_congr (eq_cast (n := 1))
  have key : Meets (P0 sa zs) n 56 [p,.int z,maps] h fun v h' => v = .ref h.length ∧ h' = h ++ [.tup [.int (mk (fs * rs) (q1B fs rs b s)),.int (mk (fs * rs) (q2B fs rs b s))]] := by
    by_cases hq : ∃ q,(List.range (fs * rs)).filter (isK b (1 - s) 5) = [q]
    · obtain ⟨q,hq⟩ := hq
      have hqn : qnB fs rs b s = some q := (congrArg oneL hq).trans rfl
      have hql : q < fs * rs := List.mem_range.mp (List.mem_filter.mp (by rw [hq]; exact List.mem_singleton.mpr rfl)).1
      have e8 : mk (fs * rs) (isK b (1 - s) 5) = mk (fs * rs) fun t => Nat.beq q t := mk_congr fun t ht => by
        rw [Bool.eq_iff_iff,beq_iff']
        have : t ∈ (List.range (fs * rs)).filter (isK b (1 - s) 5) ↔ t = q := by rw [hq,List.mem_singleton]
        rw [List.mem_filter,List.mem_range] at this
        exact ⟨fun z => (this.mp ⟨ht,z⟩).symm,fun z => (this.mpr z.symm).2⟩
      have c8 := t8 (sa := sa) (zs := zs) (n := 56) (h := h) (by decide) D.size.2 hql
      rw [← e8] at c8
      have r1 : mk (fs * rs) (q1B fs rs b s) = mk (fs * rs) fun t => (byA fs rs b s 2 t && (hopsL fs rs q jumpsL).contains t) && roomB fs rs b s t := mk_congr fun t _ => by unfold q1B; rw [hqn]
      have r2 : mk (fs * rs) (q2B fs rs b s) = mk (fs * rs) fun t => (((byA fs rs b s 3 t && slideP fs rs 3 q (occB b) t) || (byA fs rs b s 4 t && slideP fs rs 4 q (occB b) t)) && roomB fs rs b s t) && twA fs rs b s t := mk_congr fun t _ => by unfold q2B; rw [hqn]
      have er : Builtin.bitAnd (Builtin.bitAnd (mk (fs * rs) (areaB fs rs b s (shB fs rs b s))) (Builtin.bitNot (mk (fs * rs) (isK b s 1)))) (Builtin.bitNot (mk (fs * rs) (strongB fs rs b s))) = mk (fs * rs) (roomB fs rs b s) := by rw [andn_mk,andn_mk]; rfl
      refine call_wp m56 hn ⟨rfl,_,rfl,_,rfl,_,_,t31 Z (by decide) (one_sub hz hs) one_lt (k := 5) rfl (by decide),rfl,_,rfl,_,_,e5 (by decide) D.le rfl,fun c => ?_,fun _ => ⟨_,rfl,_,rfl,_,g1,rfl,_,rfl,_,_,c8,rfl,
        _,rfl,_,rfl,_,rfl,_,A.sh,_,_,t45 Z Y (by decide) hz hs rfl,_,rfl,_,rfl,_,_,t31 Z (by decide) hz hs (k := 1) rfl (by decide),_,rfl,_,rfl,_,rfl,_,_,t47' M (by decide) hz hs,_,rfl,rfl,
        _,rfl,_,a,_,e _ 2 rfl (by decide),_,rfl,_,ga,_,ka,_,rfl,_,kr _ q rfl hql,rfl,
        _,rfl,_,a,_,e _ 3 rfl (by decide),_,rfl,_,ga,_,rfl,_,rfl,_,_,t30 Z Y (by decide),_,_,t25 G D (by decide) rfl hql rfl,rfl,
        _,rfl,_,rfl,_,a,_,e _ 4 rfl (by decide),_,rfl,_,ga,_,rfl,_,rfl,_,_,t30 Z Y (by decide),_,_,t24 G D (by decide) rfl hql rfl,
        _,rfl,_,rfl,_,rfl,_,rfl,_,rfl,_,A.tw,rfl,rfl,?_⟩⟩
      · rw [hq] at c; exact ff c
      · rw [er,r1,r2,and_mk,and_mk,and_mk,and_mk,or_mk,and_mk,and_mk]; rfl
    · have hl : Nat.beq ((List.range (fs * rs)).filter (isK b (1 - s) 5)).length 1 = false := by
        rw [beq_ff]; intro z; exact hq (List.length_eq_one_iff.mp z)
      have hqn : qnB fs rs b s = none := oneL_none hq
      have r1 : mk (fs * rs) (q1B fs rs b s) = 0 := mk_eq_zero.mpr fun t _ => by unfold q1B; rw [hqn]
      have r2 : mk (fs * rs) (q2B fs rs b s) = 0 := mk_eq_zero.mpr fun t _ => by unfold q2B; rw [hqn]
      refine call_wp m56 hn ⟨rfl,_,rfl,_,rfl,_,_,t31 Z (by decide) (one_sub hz hs) one_lt (k := 5) rfl (by decide),rfl,_,rfl,_,_,e5 (by decide) D.le rfl,fun _ => ⟨rfl,rfl,by rw [r1,r2]; rfl⟩,fun c => ?_⟩
      rw [lenq,hl] at c; exact tt c
  obtain ⟨v,h',e,rfl,rfl⟩ := key
  exact e
end
noncomputable def minorT (k : Nat) : Nat × Nat := [(0,0),(5,32),(55,41),(77,56),(89,119),(79,162),(0,0)].getD k (0,0)
noncomputable def rookT (k : Nat) : Nat × Nat := [(0,0),(3,44),(37,68),(42,60),(0,39),(58,43),(0,0)].getD k (0,0)
noncomputable def scr (x : Nat × Nat) : Nat := x.2 * 65536 + x.1
noncomputable def sumT (b : List Nat) (T : Nat → Nat × Nat) (l : List Nat) : Nat := (l.map fun t => scr (T (cell b t % 8))).sum
section
variable (fs rs : Nat) (b : List Nat)
noncomputable def fl (p : Nat → Bool) : List Nat := (List.range (fs * rs)).filter p
noncomputable def qOne : Nat := match Nat.beq (fl fs rs (kindB b 5)).length 1 with
  | true => 2
  | false => 1
noncomputable def hitN (dbl : Bool) (s : Nat) : Nat := (fl fs rs (hitsB fs rs b s (pushB fs rs b dbl s))).length
noncomputable def thN (dbl : Bool) (s : Nat) : Nat :=
  sumT b minorT (fl fs rs (lessB fs rs b s)) + sumT b rookT (fl fs rs fun t => weakB fs rs b s t && byA fs rs b s 4 t) +
  (match (fl fs rs fun t => weakB fs rs b s t && byA fs rs b s 6 t).isEmpty with | true => 0 | false => scr (24,89)) +
  scr (69,36) * (fl fs rs (hangB fs rs b s)).length + scr (14,0) * (fl fs rs fun t => weakB fs rs b s t && byA fs rs b (1 - s) 5 t).length + scr (7,7) * (fl fs rs (restB fs rs b s)).length +
  scr (173,94) * (fl fs rs (hitsB fs rs b s fun t => isK b s 1 t && safeB fs rs b s t)).length + scr (48,39) * hitN fs rs b dbl s +
  scr (16,11) * (fl fs rs (q1B fs rs b s)).length * qOne fs rs b + scr (60,18) * (fl fs rs (q2B fs rs b s)).length * qOne fs rs b
end
inductive J57a (h : H) (fs : Nat) (rs : Nat) (b : List Nat) (p : V) (X : Int) (q : Nat → Bool) (tv : V) (T : Nat → Nat × Nat) (L : List Nat) (σ : Sig) (h' : H) : Prop
  | mk  (c0 : ∃ (acc : Nat) (o4 o5 o6 : Option V),σ = [some p,some (.int X),some tv,some (vN acc),o4,o5,o6] ∧ acc + sumT b T L = sumT b T (fl fs rs q)) (c1 : h' = h ++ [.lst ((fl fs rs q).map vN)]) (c2 : ∀ t ∈ L,t < fs * rs ∧ q t = true) : J57a h fs rs b p X q tv T L σ h'
section
variable {sa : Nat} {zs : List Int} {n : Nat} {h : H}
noncomputable def TabOk (C : Nat → Option O) (tv : V) (T : Nat → Nat × Nat) : Prop := ∀ (h : H) (k : Nat),1 ≤ k → k < 7 → ∃ c,getSub C h tv (.int (k : Nat)) = some c ∧ unpackV C h c 2 = some [vN (T k).1,vN (T k).2]
theorem minor_ok : TabOk (P0 sa zs).C ((P0 sa zs).tabs 2) minorT := fun h k h1 h7 => by
  match k,h1,h7 with
  | 1,_,_ | 2,_,_ | 3,_,_ | 4,_,_ | 5,_,_ | 6,_,_ => exact ⟨_,rfl,rfl⟩
theorem rook_ok : TabOk (P0 sa zs).C ((P0 sa zs).tabs 3) rookT := fun h k h1 h7 => by
  match k,h1,h7 with
  | 1,_,_ | 2,_,_ | 3,_,_ | 4,_,_ | 5,_,_ | 6,_,_ => exact ⟨_,rfl,rfl⟩
theorem t46 (hn : 46 < n) {x y : Int} {a e : Nat} (hx : x = a) (hy : y = e) (he : e < 1000) : callN (P0 sa zs) fnT n 46 [.int x,.int y] h = some (vN (scr (a,e)),h) := by
  subst hx hy
  refine gives_of (call_wp m46 hn ⟨rfl,_,rfl,_,shl_ok (c := 16) rfl (by decide) (small_nat (Nat.lt_trans he (by decide))),_,rfl,?_,rfl⟩)
  show V.int ((e : Int) * 65536 + (a : Int)) = V.int (((e * 65536 + a : Nat)) : Int)
  rw [Int.natCast_add,Int.natCast_mul]; rfl
theorem e11 (hn : 11 < n) {x : Int} {c : Nat} (hx : x = c) : callN (P0 sa zs) fnT n 11 [.int x] h = some (vN (c % 8),h) := by
  subst hx
  rw [gives_of (t11 hn)]
  show some (V.int ((c &&& 7 : Nat) : Int),h) = _
  rw [show 7 = 2 ^ 3 - 1 from rfl,Nat.and_two_pow_sub_one_eq_mod]
variable {maps : V} {fs rs : Nat} {b : List Nat} {p : V} {hd : Bool} (Z : PosAt (P0 sa zs).C h p fs rs hd b) (Y : Good fs rs b) (M : MapsAt (P0 sa zs).C h maps fs rs b)
include Z Y
theorem t57 (hn : 57 < n) {X : Int} {q : Nat → Bool} {tv : V} {T : Nat → Nat × Nat} (hT : TabOk (P0 sa zs).C tv T) (hlt : ∀ k,(T k).2 < 1000) (hX : X = mk (fs * rs) q) (hq : ∀ t,q t = true → occB b t = true) :
    callN (P0 sa zs) fnT n 57 [p,.int X,tv] h = some (vN (sumT b T (fl fs rs q)),h ++ [.lst ((fl fs rs q).map vN)]) := by
  have D := Y.dim
  have pre := List.prefix_append h [O.lst ((fl fs rs q).map vN)]
  obtain ⟨bv,ba,be⟩ := pos_bd (Z.mono pre) Y
  have key : Meets (P0 sa zs) n 57 [p,.int X,tv] h fun v h' => v = vN (sumT b T (fl fs rs q)) ∧ h' = h ++ [.lst ((fl fs rs q).map vN)] := by
    refine call_wp m57 hn ⟨rfl,rfl,_,rfl,_,_,e9 (by decide) D.le hX,_,_,last_get h _,rfl,
      forN_wp (L := fl fs rs q) (J57a h fs rs b p X q tv T) _ (fun t L σ h' j => ?_) (fun σ h' j => ?_) rfl
      ⟨⟨0,_,_,_,rfl,Nat.zero_add _⟩,rfl,fun t ht => ⟨List.mem_range.mp (List.mem_filter.mp ht).1,(List.mem_filter.mp ht).2⟩⟩⟩
    · obtain ⟨⟨acc,o4,o5,o6,rfl,hs⟩,rfl,hL⟩ := j
      obtain ⟨ht,hqt⟩ := hL t List.mem_cons_self
      have ho := hq t hqt
      have hk1 : 1 ≤ cell b t % 8 := by
        unfold occB at ho
        rw [Bool.not_eq_true',beq_ff] at ho
        exact Nat.pos_of_ne_zero fun z => ho ((Y.ok t).2 z)
      obtain ⟨c,c1,c2⟩ := hT (h ++ [O.lst ((fl fs rs q).map vN)]) (cell b t % 8) hk1 (Y.ok t).1
      refine ⟨stable_of (last_get h _),rfl,_,rfl,_,rfl,_,ba,_,rfl,_,be _ t rfl ht,_,_,e11 (by decide) rfl,_,c1,_,_,c2,rfl,_,rfl,_,rfl,_,rfl,_,_,t46 (by decide) rfl rfl (hlt _),⟨acc + scr (T (cell b t % 8)),_,_,_,by rw [show vN (acc + scr (T (cell b t % 8))) = V.int ((acc : Int) + (scr (T (cell b t % 8)) : Nat)) from congrArg V.int (Int.natCast_add ..)]; rfl,?_⟩,rfl,fun t ht => hL t (List.mem_cons_of_mem _ ht)⟩
      rw [← hs]; unfold sumT; rw [List.map_cons,List.sum_cons,Nat.add_assoc]
    · obtain ⟨⟨acc,o4,o5,o6,rfl,hs⟩,rfl,hL⟩ := j
      exact ⟨stable_of (last_get h _),_,rfl,by rw [← hs]; rfl,rfl⟩
  obtain ⟨v,h',e,rfl,rfl⟩ := key
  exact e
end
theorem minor_lt (k : Nat) : (minorT k).2 < 1000 := by
  match k with
  | 0 | 1 | 2 | 3 | 4 | 5 | 6 => decide
  | k + 7 => exact (show (0 : Nat) < 1000 by decide)
theorem rook_lt (k : Nat) : (rookT k).2 < 1000 := by
  match k with
  | 0 | 1 | 2 | 3 | 4 | 5 | 6 => decide
  | k + 7 => exact (show (0 : Nat) < 1000 by decide)
theorem own_occ {b : List Nat} {s t : Nat} (h : ownB b s t = true) : occB b t = true := (Bool.and_eq_true_iff.mp h).1
theorem weak_occ {fs rs : Nat} {b : List Nat} {s t : Nat} (h : weakB fs rs b s t = true) : occB b t = true := by
  unfold weakB at h
  rw [Bool.and_eq_true,Bool.and_eq_true] at h
  exact own_occ h.1.1
theorem less_occ {fs rs : Nat} {b : List Nat} {s t : Nat} (h : lessB fs rs b s t = true) : occB b t = true := by
  unfold lessB offB at h
  rw [Bool.and_eq_true,Bool.or_eq_true,Bool.and_eq_true,Bool.and_eq_true] at h
  exact h.1.elim weak_occ fun z => own_occ z.1.1
theorem fl_nil {fs rs : Nat} {p : Nat → Bool} : mk (fs * rs) p = 0 ↔ (fl fs rs p).isEmpty = true := by
  rw [mk_eq_zero,List.isEmpty_iff,fl,List.filter_eq_nil_iff]
  exact ⟨fun h t ht z => (by rw [h t (List.mem_range.mp ht)] at z; cases z),fun h t ht => by
    cases z : p t with
    | false => rfl
    | true => exact absurd z (h t (List.mem_range.mpr ht))⟩
theorem unp_last {C : Nat → Option O} {h : H} {x y : V} : unpackV C (h ++ [.tup [x,y]]) (.ref h.length) 2 = some [x,y] := by
  unfold unpackV; rw [show objOf C (h ++ [.tup [x,y]]) (.ref h.length) = _ from last_get _ _]; rfl
theorem sig_eq {P : Par} {F : Call} {ss : MSs} {σ σ' : Sig} {h : H} {Q : Fl → Sig → H → Prop} (e : σ' = σ) (w : wSs P F ss σ h Q) : wSs P F ss σ' h Q := by subst e; exact w
section
variable {sa : Nat} {zs : List Int} {n : Nat} {h : H}
variable {maps : V} {fs rs : Nat} {b : List Nat} {p : V} {hd : Bool} (Z : PosAt (P0 sa zs).C h p fs rs hd b) (Y : Good fs rs b) (M : MapsAt (P0 sa zs).C h maps fs rs b)
include Z Y M
set_option maxHeartbeats 1000000 in
theorem t58 (hn : 58 < n) {z : Int} {s : Nat} (hz : z = s) (hs : s < 2) : Meets (P0 sa zs) n 58 [p,.int z,maps] h fun v h' => v = vN (thN fs rs b (hd && Nat.ble 5 rs) s) ∧ h <+: h' := by
  have D := Y.dim
  have pre1 := List.prefix_append h [O.lst ((fl fs rs (lessB fs rs b s)).map vN)]
  have Z1 := Z.mono pre1
  have M1 := M.mono pre1
  have pre2 := List.prefix_append (h ++ [O.lst ((fl fs rs (lessB fs rs b s)).map vN)]) [O.lst ((fl fs rs fun t => weakB fs rs b s t && byA fs rs b s 4 t).map vN)]
  have Z2 := Z1.mono pre2
  have M2 := M1.mono pre2
  have pre := pre1.trans pre2
  obtain ⟨m,g1,A⟩ := M z s hz hs
  obtain ⟨va,ea,ea'⟩ := atk_by (A.mono pre1)
  obtain ⟨vb,eb,eb'⟩ := atk_by (A.mono pre)
  obtain ⟨mo,g2,Ao⟩ := M2 _ _ (one_sub hz hs) one_lt
  obtain ⟨vo,eo,eo'⟩ := atk_by Ao
  obtain ⟨kv,ka,kr⟩ := pos_kd Z2
  have one : ∀ k : Nat,((k : Int) == Int.ofNat 1) = Nat.beq k 1 := fun k => by
    rw [Bool.eq_iff_iff,beq_iff_eq,beq_iff']; exact eq_cast (n := 1)
  have f1 := t57 (n := 58) (tv := (P0 sa zs).tabs 2) Z Y (by decide) minor_ok minor_lt rfl fun t ht => less_occ (fs := fs) (rs := rs) (s := s) ht
  have f2 := t57 (n := 58) (tv := (P0 sa zs).tabs 3) (X := Builtin.bitAnd (mk (fs * rs) (weakB fs rs b s)) (mk (fs * rs) (byA fs rs b s 4))) Z1 Y (by decide) rook_ok rook_lt and_mk fun t ht => weak_occ (Bool.and_eq_true_iff.mp ht).1
  have c6 : Builtin.bitAnd (mk (fs * rs) (weakB fs rs b s)) (mk (fs * rs) (byA fs rs b s 6)) = 0 ↔ (fl fs rs fun t => weakB fs rs b s t && byA fs rs b s 6 t).isEmpty = true := by rw [and_mk]; exact fl_nil
  refine call_wp m58 hn ⟨rfl,_,rfl,_,rfl,_,g1,rfl,sig_eq (σ := [_,_,_,_,_,_,_,_,_,_]) rfl ⟨_,rfl,_,rfl,_,rfl,_,_,t49 Z M (by decide) hz hs,rfl,_,rfl,_,rfl,_,rfl,_,rfl,_,_,t51 Z M (by decide) hz hs,_,_,f1,rfl,sig_eq (σ := [_,_,_,_,_,_,_,_,_,_]) rfl ⟨_,rfl,_,rfl,_,rfl,_,rfl,_,ea,_,ea' _ 4 rfl (by decide),_,_,f2,sig_eq (σ := [_,_,_,_,_,_,_,_,_,_]) rfl ⟨_,rfl,_,rfl,_,eb,_,eb' _ 6 rfl (by decide),fun c8 => ⟨_,rfl,_,_,t46 (by decide) rfl rfl (by decide),?W1⟩,fun c8 => ?W2⟩⟩⟩⟩
  case W1 =>
    have d6 : (fl fs rs fun t => weakB fs rs b s t && byA fs rs b s 6 t).isEmpty = false := Bool.eq_false_iff.mpr fun z => c8 (c6.mpr z)
    refine sig_eq (σ := [_,_,_,_,_,_,_,_,_,_]) rfl ⟨_,rfl,_,_,t46 (by decide) rfl rfl (by decide),_,rfl,_,rfl,_,rfl,_,_,t50 Z2 M2 (by decide) hz hs,_,_,e5 (by decide) D.le rfl,_,mul_ok (small_nat (by decide)),sig_eq (σ := [_,_,_,_,_,_,_,_,_,_]) rfl ⟨_,rfl,_,_,t46 (by decide) rfl rfl (by decide),_,rfl,_,rfl,_,rfl,_,g2,_,eo,_,eo' _ 5 rfl (by decide),_,_,e5 (by decide) D.le and_mk,_,mul_ok (small_nat (by decide)),sig_eq (σ := [_,_,_,_,_,_,_,_,_,_]) rfl ⟨_,rfl,_,_,t46 (by decide) rfl rfl (by decide),_,rfl,_,rfl,_,_,t52 M2 (by decide) hz hs,_,_,e5 (by decide) D.le rfl,_,mul_ok (small_nat (by decide)),sig_eq (σ := [_,_,_,_,_,_,_,_,_,_]) rfl ⟨_,rfl,_,rfl,_,_,t31 Z2 (by decide) hz hs (k := 1) rfl (by decide),_,rfl,_,rfl,_,rfl,_,_,t54 Z2 M2 (by decide) hz hs,rfl,sig_eq (σ := [_,_,_,_,_,_,_,_,_,_]) rfl ⟨_,rfl,_,_,t46 (by decide) rfl rfl (by decide),_,rfl,_,rfl,_,rfl,_,_,t53 Z2 Y (by decide) hz hs and_mk,_,_,e5 (by decide) D.le rfl,_,mul_ok (small_nat (by decide)),sig_eq (σ := [_,_,_,_,_,_,_,_,_,_]) rfl ⟨_,rfl,_,_,t46 (by decide) rfl rfl (by decide),_,rfl,_,rfl,_,rfl,_,rfl,_,rfl,_,_,t55 Z2 Y M2 (by decide) hz hs,_,_,t53 Z2 Y (by decide) hz hs rfl,_,_,e5 (by decide) D.le rfl,_,mul_ok (small_nat (by decide)),sig_eq (σ := [_,_,_,_,_,_,_,_,_,_]) rfl ⟨_,rfl,_,rfl,_,rfl,_,_,t56 Z2 Y M2 (by decide) hz hs,_,_,unp_last,rfl,sig_eq (σ := [_,_,_,_,_,_,_,_,_,_]) rfl ⟨_,rfl,_,attr_pre (List.prefix_append _ _) ka,_,sub_pre (List.prefix_append _ _) (kr _ 5 rfl (by decide)),_,_,e5 (by decide) D.le rfl,fun c9 => ⟨rfl,sig_eq (σ := [_,_,_,_,_,_,_,_,_,_]) rfl ⟨_,rfl,_,_,t46 (by decide) rfl rfl (by decide),_,rfl,_,_,e5 (by decide) D.le rfl,_,mul_ok (small_nat (by decide)),_,rfl,_,mulr_ok rfl,_,_,t46 (by decide) rfl rfl (by decide),_,rfl,_,_,e5 (by decide) D.le rfl,_,mul_ok (small_nat (by decide)),_,rfl,_,mulr_ok rfl,?_,pre.trans (List.prefix_append _ _)⟩⟩,fun c9 => ⟨rfl,sig_eq (σ := [_,_,_,_,_,_,_,_,_,_]) rfl ⟨_,rfl,_,_,t46 (by decide) rfl rfl (by decide),_,rfl,_,_,e5 (by decide) D.le rfl,_,mul_ok (small_nat (by decide)),_,rfl,_,mulr_ok rfl,_,_,t46 (by decide) rfl rfl (by decide),_,rfl,_,_,e5 (by decide) D.le rfl,_,mul_ok (small_nat (by decide)),_,rfl,_,mulr_ok rfl,?_,pre.trans (List.prefix_append _ _)⟩⟩⟩⟩⟩⟩⟩⟩⟩⟩
    · have q1 : qOne fs rs b = 2 := by unfold qOne; rw [← one]; exact c9 ▸ rfl
      unfold thN; rw [d6,q1]; rfl
    · have q1 : qOne fs rs b = 1 := by unfold qOne; rw [← one]; exact c9 ▸ rfl
      unfold thN; rw [d6,q1]; rfl
  case W2 =>
    have d6 := c6.mp c8
    refine sig_eq (σ := [_,_,_,_,_,_,_,_,_,_]) rfl ⟨_,rfl,_,_,t46 (by decide) rfl rfl (by decide),_,rfl,_,rfl,_,rfl,_,_,t50 Z2 M2 (by decide) hz hs,_,_,e5 (by decide) D.le rfl,_,mul_ok (small_nat (by decide)),sig_eq (σ := [_,_,_,_,_,_,_,_,_,_]) rfl ⟨_,rfl,_,_,t46 (by decide) rfl rfl (by decide),_,rfl,_,rfl,_,rfl,_,g2,_,eo,_,eo' _ 5 rfl (by decide),_,_,e5 (by decide) D.le and_mk,_,mul_ok (small_nat (by decide)),sig_eq (σ := [_,_,_,_,_,_,_,_,_,_]) rfl ⟨_,rfl,_,_,t46 (by decide) rfl rfl (by decide),_,rfl,_,rfl,_,_,t52 M2 (by decide) hz hs,_,_,e5 (by decide) D.le rfl,_,mul_ok (small_nat (by decide)),sig_eq (σ := [_,_,_,_,_,_,_,_,_,_]) rfl ⟨_,rfl,_,rfl,_,_,t31 Z2 (by decide) hz hs (k := 1) rfl (by decide),_,rfl,_,rfl,_,rfl,_,_,t54 Z2 M2 (by decide) hz hs,rfl,sig_eq (σ := [_,_,_,_,_,_,_,_,_,_]) rfl ⟨_,rfl,_,_,t46 (by decide) rfl rfl (by decide),_,rfl,_,rfl,_,rfl,_,_,t53 Z2 Y (by decide) hz hs and_mk,_,_,e5 (by decide) D.le rfl,_,mul_ok (small_nat (by decide)),sig_eq (σ := [_,_,_,_,_,_,_,_,_,_]) rfl ⟨_,rfl,_,_,t46 (by decide) rfl rfl (by decide),_,rfl,_,rfl,_,rfl,_,rfl,_,rfl,_,_,t55 Z2 Y M2 (by decide) hz hs,_,_,t53 Z2 Y (by decide) hz hs rfl,_,_,e5 (by decide) D.le rfl,_,mul_ok (small_nat (by decide)),sig_eq (σ := [_,_,_,_,_,_,_,_,_,_]) rfl ⟨_,rfl,_,rfl,_,rfl,_,_,t56 Z2 Y M2 (by decide) hz hs,_,_,unp_last,rfl,sig_eq (σ := [_,_,_,_,_,_,_,_,_,_]) rfl ⟨_,rfl,_,attr_pre (List.prefix_append _ _) ka,_,sub_pre (List.prefix_append _ _) (kr _ 5 rfl (by decide)),_,_,e5 (by decide) D.le rfl,fun c9 => ⟨rfl,sig_eq (σ := [_,_,_,_,_,_,_,_,_,_]) rfl ⟨_,rfl,_,_,t46 (by decide) rfl rfl (by decide),_,rfl,_,_,e5 (by decide) D.le rfl,_,mul_ok (small_nat (by decide)),_,rfl,_,mulr_ok rfl,_,_,t46 (by decide) rfl rfl (by decide),_,rfl,_,_,e5 (by decide) D.le rfl,_,mul_ok (small_nat (by decide)),_,rfl,_,mulr_ok rfl,?_,pre.trans (List.prefix_append _ _)⟩⟩,fun c9 => ⟨rfl,sig_eq (σ := [_,_,_,_,_,_,_,_,_,_]) rfl ⟨_,rfl,_,_,t46 (by decide) rfl rfl (by decide),_,rfl,_,_,e5 (by decide) D.le rfl,_,mul_ok (small_nat (by decide)),_,rfl,_,mulr_ok rfl,_,_,t46 (by decide) rfl rfl (by decide),_,rfl,_,_,e5 (by decide) D.le rfl,_,mul_ok (small_nat (by decide)),_,rfl,_,mulr_ok rfl,?_,pre.trans (List.prefix_append _ _)⟩⟩⟩⟩⟩⟩⟩⟩⟩⟩
    · have q1 : qOne fs rs b = 2 := by unfold qOne; rw [← one]; exact c9 ▸ rfl
      unfold thN; rw [d6,q1]; rfl
    · have q1 : qOne fs rs b = 1 := by unfold qOne; rw [← one]; exact c9 ▸ rfl
      unfold thN; rw [d6,q1]; rfl
end
theorem range_sub {A B : Int} {a c : Nat} (hA : A = a) (hB : B = c) : (rangeList A B 1).map V.int = (List.range' a (c - a)).map vN := by
  subst hA hB
  by_cases h : a ≤ c
  · exact range_ok rfl (by rw [Nat.add_sub_cancel' h])
  · rw [Nat.sub_eq_zero_of_le (Nat.le_of_lt (Nat.lt_of_not_le h))]
    unfold rangeList
    rw [if_pos (by decide),show (((c : Int) - a + 1 - 1) / 1).toNat = 0 by rw [Int.ediv_one,Int.add_sub_cancel]; exact Int.toNat_of_nonpos (Int.sub_nonpos_of_le (Int.ofNat_le.mpr (Nat.le_of_lt (Nat.lt_of_not_le h))))]; rfl
theorem any_range' (a m x : Nat) : ((List.range' a m).any fun f => Nat.beq x f) = (Nat.ble a x && Nat.blt x (a + m)) := by
  rw [Bool.eq_iff_iff,List.any_eq_true,Bool.and_eq_true,Nat.ble_eq,Nat.blt_eq]
  refine ⟨fun ⟨f,hf,e⟩ => ?_,fun z => ⟨x,List.mem_range'_1.mpr z,Nat.beq_refl x⟩⟩
  rw [beq_iff'.mp e]; exact List.mem_range'_1.mp hf
noncomputable def midB (fs rs s t : Nat) : Bool := (Nat.ble (fs / 4) (t % fs) && Nat.blt (t % fs) (fs - fs / 4)) && (Nat.beq (rkS fs rs s t) 1 || (Nat.ble 2 (rkS fs rs s t) && Nat.blt (rkS fs rs s t) (rs / 2)))
section
variable (fs rs : Nat) (b : List Nat)
noncomputable def wideB (s t : Nat) : Bool := (midB fs rs s t && !isK b s 1 t) && !byA fs rs b (1 - s) 1 t
noncomputable def back1 (s t : Nat) : Bool := isK b s 1 t || upB fs rs (1 - s) (isK b s 1) t
noncomputable def back3 (s t : Nat) : Bool := back1 fs rs b s t || upB fs rs (1 - s) (upB fs rs (1 - s) (back1 fs rs b s)) t
noncomputable def spaceN (s : Nat) : Nat := (fl fs rs (wideB fs rs b s)).length + (fl fs rs fun t => (back3 fs rs b s t && wideB fs rs b s t) && !byA fs rs b (1 - s) 0 t).length
noncomputable def blockN : Nat := 2 * (fl fs rs fun t => isK b 1 1 t && upB fs rs 0 (isK b 0 1) t).length
noncomputable def offN : Nat := (fl fs rs fun t => (occB b t && !kindB b 1 t) && !kindB b 6 t).length
noncomputable def cap9 (y : Int) : Int := if 9 < y then 9 else y
noncomputable def pos0 (x : Int) : Int := if 0 > x then 0 else x
noncomputable def factN (s : Nat) : Int := pos0 (((fl fs rs (ownB b s)).length : Int) - 3 + cap9 (blockN fs rs b : Int))
noncomputable def spcN (s : Nat) : Int := if (16 * offN fs rs b < 3 * (fs * rs)) then 0 else ((spaceN fs rs b s : Nat) * factN fs rs b s * factN fs rs b s).fdiv 16
end
section
variable {sa : Nat} {zs : List Int} {n : Nat} {h : H}
section
variable {fs rs : Nat} {b : List Nat} {s : Nat} (hN : fs * rs ≤ 30)
include hN
theorem fl_le (q : Nat → Bool) : (fl fs rs q).length ≤ 30 := by
  have := List.length_filter_le q (List.range (fs * rs)); rw [List.length_range] at this; exact Nat.le_trans this hN
theorem fact_le : 0 ≤ factN fs rs b s ∧ factN fs rs b s ≤ 100 := by
  have c9 : ∀ n : Int,cap9 n ≤ 9 := fun n => by unfold cap9; by_cases q : 9 < n; rw [if_pos q]; exact Int.le_refl _; rw [if_neg q]; exact Int.not_lt.mp q
  unfold factN pos0
  by_cases q : 0 > ((fl fs rs (ownB b s)).length : Int) - 3 + cap9 (blockN fs rs b : Int)
  · rw [if_pos q]; exact ⟨Int.le_refl _,by decide⟩
  · rw [if_neg q]; exact ⟨Int.not_lt.mp q,Int.le_trans (Int.add_le_add (Int.le_trans (Int.sub_le_self _ (by decide)) (Int.ofNat_le.mpr (fl_le hN _))) (c9 _)) (by decide)⟩
theorem space_le : spaceN fs rs b s ≤ 60 := Nat.add_le_add (fl_le hN _) (fl_le hN _)
end
theorem spc_mul {x f : Nat} (hx : x ≤ 60) (hf : f ≤ 100) : binInt .Mult (x : Int) (f : Int) = some ((x * f : Nat) : Int) ∧ binInt .Mult ((x * f : Nat) : Int) (f : Int) = some ((x * f * f : Nat) : Int) :=
  ⟨(mul_ok (small_nat (Nat.lt_of_le_of_lt hx (by decide)))).trans (congrArg some (Int.natCast_mul ..).symm),(mul_ok (small_nat (Nat.lt_of_le_of_lt (Nat.mul_le_mul hx hf) (by decide)))).trans (congrArg some (Int.natCast_mul ..).symm)⟩
inductive J59a (h : H) (g : V) (fs : Nat) (rs : Nat) (z : Int) (L : List Nat) (σ : Sig) (h' : H) : Prop
  | mk  (c0 : ∃ q o3,σ = [some g,some (.int z),some (.int (mk (fs * rs) q)),o3,none,none] ∧ ∀ t,(q t || L.any fun f => Nat.beq (t % fs) f) = (Nat.ble (fs / 4) (t % fs) && Nat.blt (t % fs) (fs - fs / 4))) (c1 : h' = h) (c2 : ∀ f ∈ L,f < fs) : J59a h g fs rs z L σ h'
inductive J59b (g : V) (fs : Nat) (rs : Nat) (z : Int) (s : Nat) (h' : H) (q : Nat → Bool) (o3 : Option V) (L : List Nat) (σ : Sig) (h'' : H) : Prop
  | mk  (c0 : ∃ w o5,σ = [some g,some (.int z),some (.int (mk (fs * rs) q)),o3,some (.int (mk (fs * rs) w)),o5] ∧ ∀ t,(w t || L.any fun r => Nat.beq (rkS fs rs s t) r) = (Nat.beq (rkS fs rs s t) 1 || (Nat.ble 2 (rkS fs rs s t) && Nat.blt (rkS fs rs s t) (rs / 2)))) (c1 : h'' = h') (c2 : ∀ r ∈ L,r < rs) : J59b g fs rs z s h' q o3 L σ h''
section
variable {g : V} {fs rs : Nat} {hd : Bool} (G : GeoAt (P0 sa zs).C h g fs rs hd) (D : Dim fs rs)
include G D
theorem t59 (hn : 59 < n) {z : Int} {s : Nat} (hz : z = s) (hs : s < 2) : callN (P0 sa zs) fnT n 59 [g,.int z] h = some (.int (mk (fs * rs) (midB fs rs s)),h) := by
  obtain ⟨v,a,e⟩ := geo_fl G D
  have hf := D.1
  have hr := D.2
  have c4 : binInt .FloorDiv (fs : Int) (Int.ofNat 4) = some ((fs / 4 : Nat) : Int) := div_ok rfl rfl (by decide) (by decide)
  have c2 : binInt .FloorDiv (rs : Int) (Int.ofNat 2) = some ((rs / 2 : Nat) : Int) := div_ok rfl rfl (by decide) (by decide)
  have hB : (fs : Int) - ((fs / 4 : Nat) : Int) = ((fs - fs / 4 : Nat) : Int) := cast_sub (Nat.div_le_self ..)
  have q4 : fs / 4 ≤ fs := Nat.div_le_self ..
  have hq4 : fs / 4 + (fs - fs / 4 - fs / 4) = fs - fs / 4 := (show ∀ fs,fs < 6 → fs / 4 + (fs - fs / 4 - fs / 4) = fs - fs / 4 by decide) fs (Nat.lt_succ_of_le hf.2)
  refine gives_of (call_wp m59 hn ⟨rfl,rfl,_,rfl,_,G.files,_,c4,_,rfl,_,G.files,_,rfl,_,G.files,_,c4,_,_,rfl,rfl,rangeOk_of ⟨Nat.le_trans q4 (Nat.le_trans hf.2 (by decide)),by rw [hB]; exact Nat.le_trans (Nat.sub_le ..) (Nat.le_trans hf.2 (by decide))⟩,
    forN_wp (L := List.range' (fs / 4) (fs - fs / 4 - fs / 4)) (J59a h g fs rs z) _ (fun f L σ h' j => ?_) (fun σ h' j => ?_) (range_sub rfl hB)
    ⟨⟨fun _ => false,none,by rw [mk_nil]; rfl,fun t => by rw [any_range',hq4]; rfl⟩,rfl,fun f hf => by have := (List.mem_range'_1.mp hf).2; rw [hq4] at this; exact Nat.lt_of_lt_of_le this (Nat.sub_le ..)⟩⟩)
  · obtain ⟨⟨q,o3,rfl,hq⟩,rfl,hL⟩ := j
    refine ⟨rfl,rfl,_,rfl,_,rfl,_,a,_,rfl,_,e _ f rfl (hL f List.mem_cons_self),⟨_,_,by rw [or_mk]; rfl,fun t => ?_⟩,rfl,fun f hf => hL f (List.mem_cons_of_mem _ hf)⟩
    rw [← hq t,List.any_cons,Bool.or_assoc]
  · obtain ⟨⟨q,o3,rfl,hq⟩,rfl,hL⟩ := j
    have hq' : ∀ t,q t = (Nat.ble (fs / 4) (t % fs) && Nat.blt (t % fs) (fs - fs / 4)) := fun t => by rw [← hq t]; exact (Bool.or_false _).symm
    refine ⟨rfl,_,rfl,_,rfl,_,_,t40 G D (by decide) hz hs (r := 1) rfl (Nat.lt_of_lt_of_le (by decide) hr.1),rfl,_,rfl,_,G.ranks,_,c2,_,_,rfl,rfl,rangeOk_of ⟨by decide,Nat.le_trans (Nat.div_le_self rs 2) (Nat.le_trans hr.2 (by decide))⟩,
      forN_wp (L := List.range' 2 (rs / 2 - 2)) (J59b g fs rs z s h' q o3) _ (fun r L σ h'' j => ?_) (fun σ h'' j => ?_) (range_sub rfl rfl)
      ⟨⟨_,none,rfl,fun t => ?_⟩,rfl,fun r h2 => Nat.lt_of_lt_of_le ((lt_add_sub (List.mem_range'_1.mp h2).1).mp (List.mem_range'_1.mp h2).2) (Nat.div_le_self ..)⟩⟩
    · obtain ⟨⟨w,o5,rfl,hw⟩,rfl,hL⟩ := j
      refine ⟨rfl,rfl,_,rfl,_,rfl,_,rfl,_,rfl,_,_,t40 G D (by decide) hz hs rfl (hL r List.mem_cons_self),⟨_,_,by rw [or_mk]; rfl,fun t => ?_⟩,rfl,fun f hf => hL f (List.mem_cons_of_mem _ hf)⟩
      rw [← hw t,List.any_cons,Bool.or_assoc]
    · obtain ⟨⟨w,o5,rfl,hw⟩,rfl,hL⟩ := j
      have hm : mk (fs * rs) (fun t => q t && w t) = mk (fs * rs) (midB fs rs s) := mk_congr fun t _ => by
        unfold midB; rw [← hq' t,← hw t]; exact congrArg _ (Bool.or_false _).symm
      exact ⟨rfl,_,rfl,_,rfl,by rw [and_mk,hm],rfl⟩
    · rw [any_range']
      congr 1
      rw [Bool.eq_iff_iff,Bool.and_eq_true,Bool.and_eq_true,Nat.ble_eq,Nat.blt_eq,Nat.blt_eq]; exact and_congr_right lt_add_sub
end
variable {maps : V} {fs rs : Nat} {b : List Nat} {p : V} {hd : Bool} (Z : PosAt (P0 sa zs).C h p fs rs hd b) (Y : Good fs rs b) (M : MapsAt (P0 sa zs).C h maps fs rs b)
include Z Y
theorem t61 (hn : 61 < n) : callN (P0 sa zs) fnT n 61 [p] h = some (vN (blockN fs rs b),h) := by
  obtain ⟨g,ga,G⟩ := Z.geo
  have D := Y.dim
  refine gives_of (call_wp m61 hn ⟨rfl,_,rfl,_,_,t31 Z (by decide) (s := 1) rfl (by decide) (k := 1) rfl (by decide),_,rfl,_,ga,_,rfl,_,_,t31 Z (by decide) (s := 0) rfl (by decide) (k := 1) rfl (by decide),_,_,t37 G D (by decide) (s := 0) rfl (by decide) rfl,
    _,_,e5 (by decide) D.le and_mk,_,mul_ok rfl,congrArg V.int (Int.natCast_mul 2 _).symm,rfl⟩)
include M
theorem t60 (hn : 60 < n) {z : Int} {s : Nat} (hz : z = s) (hs : s < 2) : callN (P0 sa zs) fnT n 60 [p,.int z,maps] h = some (vN (spaceN fs rs b s),h) := by
  obtain ⟨g,ga,G⟩ := Z.geo
  have D := Y.dim
  obtain ⟨m',g1',A'⟩ := M _ _ (one_sub hz hs) one_lt
  obtain ⟨v',a',e'⟩ := atk_by A'
  have w5 : Builtin.bitAnd (Builtin.bitAnd (mk (fs * rs) (midB fs rs s)) (Builtin.bitNot (mk (fs * rs) (isK b s 1)))) (Builtin.bitNot (mk (fs * rs) (byA fs rs b (1 - s) 1))) = mk (fs * rs) (wideB fs rs b s) := by rw [andn_mk,andn_mk]; rfl
  have w7 : Builtin.bitOr (mk (fs * rs) (isK b s 1)) (mk (fs * rs) (upB fs rs (1 - s) (isK b s 1))) = mk (fs * rs) (back1 fs rs b s) := by rw [or_mk]; rfl
  refine gives_of (call_wp m60 hn ⟨rfl,_,rfl,_,ga,rfl,_,rfl,_,rfl,_,_,t31 Z (by decide) hz hs (k := 1) rfl (by decide),rfl,_,rfl,_,rfl,_,_,t59 G D (by decide) hz hs,_,rfl,_,rfl,_,rfl,_,rfl,_,g1',_,a',_,e' _ 1 rfl (by decide),_,rfl,rfl,
    _,rfl,rfl,sig_eq (σ := [_,_,_,_,_,_,_,_]) rfl ⟨_,rfl,_,rfl,_,rfl,_,rfl,_,_,t37 G D (by decide) (one_sub hz hs) one_lt rfl,rfl,
    sig_eq (σ := [_,_,_,_,_,_,_,_]) rfl ⟨_,rfl,_,rfl,_,rfl,_,rfl,_,rfl,_,_,t37 G D (by decide) (one_sub hz hs) one_lt w7,_,rfl,_,_,t37 G D (by decide) (one_sub hz hs) one_lt rfl,
    sig_eq (σ := [_,_,_,_,_,_,_,_]) rfl ⟨_,rfl,_,_,e5 (by decide) D.le w5,_,rfl,_,rfl,_,rfl,_,rfl,_,g1',_,a',_,e' _ 0 rfl (by decide),_,rfl,_,_,e5 (p := fun t => (back3 fs rs b s t && wideB fs rs b s t) && !byA fs rs b (1 - s) 0 t) (by decide) D.le ?_,congrArg V.int (Int.natCast_add ..).symm,rfl⟩⟩⟩⟩)
  rw [w5,w7,or_mk,and_mk,andn_mk]; rfl
theorem t62 (hn : 62 < n) {z : Int} {s : Nat} (hz : z = s) (hs : s < 2) : callN (P0 sa zs) fnT n 62 [p,.int z,maps] h = some (.int (spcN fs rs b s),h) := by
  obtain ⟨g,ga,G⟩ := Z.geo
  have D := Y.dim
  have hN := D.size.2
  obtain ⟨kv,ka,kr⟩ := pos_kd Z
  obtain ⟨sv,sa',sr⟩ := pos_sd Z
  have eo : Builtin.bitAnd (Builtin.bitAnd (mk (fs * rs) (occB b)) (Builtin.bitNot (mk (fs * rs) (kindB b 1)))) (Builtin.bitNot (mk (fs * rs) (kindB b 6))) = mk (fs * rs) fun t => (occB b t && !kindB b 1 t) && !kindB b 6 t := by rw [andn_mk,andn_mk]
  obtain ⟨f,hf⟩ := Int.eq_ofNat_of_zero_le (fact_le (b := b) (s := s) hN).1
  obtain ⟨m1,m2⟩ := spc_mul (space_le (b := b) (s := s) hN) (Int.ofNat_le.mp (hf ▸ (fact_le hN).2) : f ≤ 100)
  have hlt : decide (Int.ofNat 16 * ((fl fs rs fun t => (occB b t && !kindB b 1 t) && !kindB b 6 t).length : Nat) < Int.ofNat 3 * ((fs * rs : Nat) : Int)) = decide (16 * offN fs rs b < 3 * (fs * rs)) := by
    unfold offN
    generalize (fl fs rs fun t => (occB b t && !kindB b 1 t) && !kindB b 6 t).length = x
    generalize fs * rs = y
    rw [decide_eq_decide]
    exact Int.ofNat_lt (n := 16 * x) (m := 3 * y)
  refine gives_of (call_wp m62 hn ⟨rfl,_,rfl,_,_,t30 Z Y (by decide),_,rfl,_,ka,_,kr _ 1 rfl (by decide),_,rfl,_,rfl,_,ka,_,kr _ 6 rfl (by decide),_,rfl,_,_,e5 (by decide) D.le eo,rfl,
    _,rfl,_,mul_ok rfl,_,rfl,_,ga,_,G.size,_,mul_ok rfl,fun c => ⟨?_,rfl⟩,fun c => ⟨_,rfl,_,sa',_,rfl,_,sr z s hz hs,_,_,e5 (by decide) D.le rfl,_,rfl,_,_,t61 Z Y (by decide),_,_,rfl,V.int (f : Nat),h,(by rw [← hf]; rfl),rfl,
      sig_eq (σ := [_,_,_,_,_]) rfl ⟨_,rfl,_,rfl,_,rfl,_,_,t60 Z Y M (by decide) hz hs,_,rfl,_,m1,_,rfl,_,m2,_,div_ok rfl rfl (by decide) (by decide),_,_,t46 (by decide) rfl rfl (by decide),?_,rfl⟩⟩⟩)
  · unfold spcN
    rw [if_pos (of_decide_eq_true (hlt.symm.trans c))]; rfl
  · unfold spcN
    rw [if_neg (of_decide_eq_false (hlt.symm.trans c)),hf,← Int.natCast_mul,← Int.natCast_mul,Int.fdiv_eq_ediv_of_nonneg _ (by decide)]
    exact congrArg V.int (congrArg Nat.cast (by unfold scr; rw [Nat.zero_mul,Nat.zero_add]))
end
section
variable {P : Par} {F : Call}
theorem wTruth_of {h : H} {v : V} {c : Bool} {A B : Prop} (e : truthy P.C h v = some c) (hA : c = true → A) (hB : c = false → B) : wTruth P h v A B := by
  cases v with
  | none => exact hB (Option.some.inj e).symm
  | bool b => obtain rfl := Option.some.inj e; exact ⟨hA,hB⟩
  | int i => obtain rfl := Option.some.inj e; exact ⟨fun z => hA (by simpa using z),fun z => hB (by simpa using z)⟩
  | ref a => exact ⟨c,e,hA,hB⟩
  | con a => exact ⟨c,e,hA,hB⟩
noncomputable def Tst (P : Par) (F : Call) (e : ME) (σ : Sig) (h : H) (c : Bool) : Prop := ∀ Q : V → H → Prop,(∀ v,truthy P.C h v = some c → Q v h) → wE P F e σ h Q
theorem tst_and {a b : ME} {σ : Sig} {h : H} {c d : Bool} (x : Tst P F a σ h c) (y : c = true → Tst P F b σ h d) : Tst P F (.and a b) σ h (c && d) := fun Q k =>
  x _ fun v hv => wTruth_of hv (fun z => y z Q fun w hw => k w (by rw [z]; exact hw)) (fun z => k v (by rw [hv,z]; rfl))
theorem tst_or {a b : ME} {σ : Sig} {h : H} {c d : Bool} (x : Tst P F a σ h c) (y : c = false → Tst P F b σ h d) : Tst P F (.or a b) σ h (c || d) := fun Q k =>
  x _ fun v hv => wTruth_of hv (fun z => k v (by rw [hv,z]; rfl)) (fun z => y z Q fun w hw => k w (by rw [z]; exact hw))
theorem tst_not {a : ME} {σ : Sig} {h : H} {c : Bool} (x : Tst P F a σ h c) : Tst P F (.not a) σ h (!c) := fun Q k =>
  x _ fun v hv => ⟨c,hv,k _ rfl⟩
theorem tst_int {h : H} {k : Nat} : truthy P.C h (vN k) = some (!Nat.beq k 0) := by
  show some ((k : Int) != 0) = _
  congr 1
  rw [Bool.eq_iff_iff,bne_iff_ne,Bool.not_eq_true',beq_ff]; exact not_congr (eq_cast (n := 0))
theorem ite_tst {t : ME} {a b : MSs} {σ : Sig} {h : H} {c : Bool} {Q : Fl → Sig → H → Prop} (x : Tst P F t σ h c) (hA : c = true → wSs P F a σ h Q) (hB : c = false → wSs P F b σ h Q) : wS P F (.ite t a b) σ h Q :=
  x _ fun v hv => wTruth_of hv hA hB
theorem iteE_tst {t a b : ME} {σ : Sig} {h : H} {c : Bool} {Q : V → H → Prop} (x : Tst P F t σ h c) (hA : c = true → wE P F a σ h Q) (hB : c = false → wE P F b σ h Q) : wE P F (.ite t a b) σ h Q :=
  x _ fun v hv => wTruth_of hv hA hB
noncomputable abbrev SqL (C : Nat → Option O) (h : H) (v : V) (L : List Nat) : Prop := objOf C h v = some (.lst (L.map vN))
theorem ints_sq (L : List Nat) : isInts (L.map vN) = some (L.map fun (t : Nat) => (t : Int)) := by
  induction L with
  | nil => rfl
  | cons x r ih => exact (congrArg (Option.map _) ih).trans rfl
theorem contains_cast (L : List Nat) (t : Nat) : (L.map fun (t : Nat) => (t : Int)).contains (t : Int) = L.contains t := by
  rw [Bool.eq_iff_iff,List.contains_iff_mem,List.contains_iff_mem,List.mem_map]
  exact ⟨fun ⟨a,ha,e⟩ => by rw [← Int.ofNat_inj.mp e]; exact ha,fun h => ⟨t,h,rfl⟩⟩
theorem in_ok {h : H} {v : V} {L : List Nat} {x : Int} {t : Nat} (hx : x = t) (e : SqL P.C h v L) : cmpV P.C h .In (.int x) v = some (L.contains t) := by
  subst hx
  refine bS_l e ?_
  rw [ints_sq,Option.map_some,contains_cast]
theorem notin_ok {h : H} {v : V} {L : List Nat} {x : Int} {t : Nat} (hx : x = t) (e : SqL P.C h v L) : cmpV P.C h .NotIn (.int x) v = some (!L.contains t) := by
  subst hx
  refine bS_l e ?_
  rw [ints_sq,Option.map_some,contains_cast]
theorem sq_at {C : Nat → Option O} {h : H} {v : V} {L : List Nat} (e : SqL C h v L) {x : Int} {k : Nat} (hx : x = k) (hk : k < L.length) (hm : k ≤ 1000000) : getSub C h v (.int x) = some (vN (L.getD k 0)) := by
  subst hx
  refine sub_lst e (Int.natCast_nonneg k) (Int.ofNat_le.mpr hm) ?_
  rw [Int.toNat_natCast,List.getElem?_map,List.getElem?_eq_getElem hk,List.getD_eq_getElem?_getD,List.getElem?_eq_getElem hk]; rfl
theorem compF {ifs : ME} {ok : H → Bool} {σ : Sig} {h : H} {L : List Nat} (p : Nat → Bool) (hok : ok h = true) (t : ∀ x ∈ L,Tst P F ifs (some (vN x) :: σ) h (p x)) :
    compL (compG (fun x h => evT P F (.cons ifs .nil) (some x :: σ) h) (fun x h => ev P F (.var 0) (some x :: σ) h)) ok (L.map vN) h = some ((L.filter p).map vN,h) := by
  induction L with
  | nil => exact if_pos hok
  | cons x r ih =>
    have w : wT P F (.cons ifs .nil) (some (vN x) :: σ) h fun c h1 => h1 = h ∧ c = p x :=
      t x List.mem_cons_self _ fun v hv => wTruth_of hv (fun z => ⟨rfl,z.symm⟩) (fun z => ⟨rfl,z.symm⟩)
    obtain ⟨c,h1,e1,rfl,rfl⟩ := wT_sound _ w
    have ih := ih fun y hy => t y (List.mem_cons_of_mem _ hy)
    cases hp : p x with
    | true =>
      rw [hp] at e1
      exact (if_pos hok).trans (bo_mk (bo_mk e1 rfl) (bo_mk ih (by rw [List.filter_cons_of_pos hp]; rfl)))
    | false =>
      rw [hp] at e1
      exact (if_pos hok).trans (bo_mk (bo_mk e1 rfl) (bo_mk ih (by rw [List.filter_cons_of_neg (by rw [hp]; decide)]; rfl)))
theorem forT_wp {is : List Nat} {b : MSs} {ok : H → Bool} {α : Type} (vs : α → V) (J : List α → Sig → H → Prop) (R : Fl → Sig → H → Prop)
    (step : ∀ x xs σ h,J (x :: xs) σ h → ok h = true ∧ ∃ ys σ1,unpackV P.C h (vs x) is.length = some ys ∧ setSlots is ys σ = some σ1 ∧ wSs P F b σ1 h (kRnd (J xs) R)) (fin : ∀ σ h,J [] σ h → ok h = true ∧ R .next σ h)
    {xs : List V} {L : List α} (e : xs = L.map vs) {σ : Sig} {h : H} (j : J L σ h) : kForT P F is b σ R ⟨xs,ok⟩ h := by
  show LoopQ _ _
  subst e
  refine LoopQ.of <| forL_J (fun ws σ h => ∃ L : List α,ws = L.map vs ∧ J L σ h) R (fun x xs σ h j => ?_) (fun σ h j => ?_) _ σ h ⟨L,rfl,j⟩
  · obtain ⟨L,e,j⟩ := j
    cases L with
    | nil => cases e
    | cons y L =>
      obtain ⟨rfl,rfl⟩ := List.cons.inj e
      obtain ⟨a,ys,σ1,c1,c2,w⟩ := step y L σ h j
      obtain ⟨fl,σ',h',e,q⟩ := wSs_sound _ w
      refine ⟨a,fl,σ',h',bq_mk c1 (bq_mk c2 e),?_⟩
      cases fl <;> first | exact ⟨L,rfl,q⟩ | exact q
  · obtain ⟨L,e,j⟩ := j
    cases L with
    | nil => exact fin σ h j
    | cons y L => cases e
end
inductive J66a (h : H) (fs : Nat) (rs : Nat) (bd : V) (wv : V) (ta : Nat) (q : Nat) (d : Nat) (b : List Nat) (T : List Nat) (k : Nat) (σ : Sig) (h' : H) : Prop
  | mk (l : List Nat) (f r : Int) (c0 : σ = [some (.int fs),some (.int rs),some bd,some (.int q),some wv,some (.ref ta),some (.ref h.length),some (.int f),some (.int r)]) (c1 : h' = h ++ [.lst (l.map vN)]) (c2 : l ++ cut (fun t => !T.contains (cell b t)) (walk fs rs (wayF d) (wayR d) k f r) = cut (fun t => !T.contains (cell b t)) (rayL fs rs d q)) (c3 : l.length + k = 6) (c4 : f = fileOf fs q + wayF d * ((7 - k : Nat) : Int)) (c5 : r = rankOf fs q + wayR d * ((7 - k : Nat) : Int)) : J66a h fs rs bd wv ta q d b T k σ h'
section
variable {sa : Nat} {zs : List Int} {n : Nat} {h : H}
inductive J65a (h : H) (N : Nat) (v : V) (L : List Nat) (K : List Nat) (σ : Sig) (h' : H) : Prop
  | mk  (c0 : ∃ q o,σ = [some v,some (.int (mk N q)),o] ∧ ∀ t,(q t || K.contains t) = L.contains t) (c1 : h' = h) (c2 : ∀ t ∈ K,t < N) : J65a h N v L K σ h'
theorem t65 (hn : 65 < n) {N : Nat} {v : V} {L : List Nat} (e : SqL (P0 sa zs).C h v L) (hL : ∀ t ∈ L,t < N) (hN : N ≤ 64) : callN (P0 sa zs) fnT n 65 [v] h = some (.int (mk N fun t => L.contains t),h) := by
  refine gives_of (call_wp m65 hn ⟨rfl,rfl,_,rfl,_,_,e,rfl,forN_wp (L := L) (J65a h N v L) _ (fun t K σ h' j => ?_) (fun σ h' j => ?_) rfl
    ⟨⟨fun _ => false,none,by rw [mk_nil]; rfl,fun t => Bool.false_or _⟩,rfl,hL⟩⟩)
  · obtain ⟨⟨q,o,rfl,hq⟩,rfl,hK⟩ := j
    have ht := hK t List.mem_cons_self
    refine ⟨stable_of e,rfl,_,rfl,_,rfl,_,shl_ok (c := t) rfl (Nat.le_trans (Nat.le_of_lt ht) (Nat.le_trans hN (by decide))) rfl,⟨fun u => q u || Nat.beq t u,_,by rw [one_mk ht,or_mk]; rfl,fun u => ?_⟩,rfl,fun t ht => hK t (List.mem_cons_of_mem _ ht)⟩
    have eb : Nat.beq t u = (u == t) := by rw [Bool.eq_iff_iff,beq_iff',beq_iff_eq]; exact eq_comm
    rw [← hq u,List.contains_cons,← eb]
    exact Bool.or_assoc ..
  · obtain ⟨⟨q,o,rfl,hq⟩,rfl,hK⟩ := j
    exact ⟨stable_of e,_,rfl,congrArg V.int (mk_congr fun t _ => (Bool.or_false _).symm.trans (hq t)),rfl⟩
theorem tst_in {fs rs : Nat} {F : Call} {P : Par} {σ : Sig} {f r : Int} {i j k l : Nat} (e1 : σ[i]? = some (some (.int f))) (e2 : σ[j]? = some (some (.int fs))) (e3 : σ[k]? = some (some (.int r))) (e4 : σ[l]? = some (some (.int rs))) :
    Tst P F (.and (.cmp2 .LtE .Lt (.const (.int (.ofNat 0))) (.var i) (.var j)) (.cmp2 .LtE .Lt (.const (.int (.ofNat 0))) (.var k) (.var l))) σ h (inB fs rs f r) :=
  tst_and (fun Q c => ⟨_,e1,fun q => ⟨_,e2,c _ (congrArg some (by rw [show decide (0 ≤ f) = true from q]; rfl))⟩,fun q => c _ (congrArg some (by rw [show decide (0 ≤ f) = false from q]; rfl))⟩)
    (fun _ Q c => ⟨_,e3,fun q => ⟨_,e4,c _ (congrArg some (by rw [show decide (0 ≤ r) = true from q]; rfl))⟩,fun q => c _ (congrArg some (by rw [show decide (0 ≤ r) = false from q]; rfl))⟩)
theorem way_ok (h : H) {d : Nat} (hd : d < 8) : ∃ w,getSub (P0 sa zs).C h ((P0 sa zs).tabs 6) (.int (d : Nat)) = some w ∧ ∀ h : H,getSub (P0 sa zs).C h w (.int (.ofNat 0)) = some (.int (wayF d)) ∧ getSub (P0 sa zs).C h w (.int (.ofNat 1)) = some (.int (wayR d)) := by
  match d,hd with
  | 0,_ | 1,_ | 2,_ | 3,_ | 4,_ | 5,_ | 6,_ | 7,_ => exact ⟨_,rfl,fun h => ⟨rfl,rfl⟩⟩
theorem way_far {fs rs d : Nat} (D : Dim fs rs) (hd : d < 8) {F R : Int} (hF : 0 ≤ F ∧ F < fs) (hR : 0 ≤ R ∧ R < rs) : inB fs rs (F + wayF d * 7) (R + wayR d * 7) = false := by
  obtain ⟨⟨_,a⟩,_,c⟩ := D
  have key : F + wayF d * 7 < 0 ∨ (fs : Int) ≤ F + wayF d * 7 ∨ R + wayR d * 7 < 0 ∨ (rs : Int) ≤ R + wayR d * 7 := by
    match d,hd with
    | 0,_ => right; right; right; exact far_up (Nat.le_succ_of_le c) hR.1
    | 1,_ => right; left; exact far_up (Nat.le_trans a (by decide)) hF.1
    | 2,_ => right; right; left; exact far_dn (Nat.le_succ_of_le c) hR.2
    | 3,_ => left; exact far_dn (Nat.le_trans a (by decide)) hF.2
    | 4,_ => right; left; exact far_up (Nat.le_trans a (by decide)) hF.1
    | 5,_ => right; left; exact far_up (Nat.le_trans a (by decide)) hF.1
    | 6,_ => left; exact far_dn (Nat.le_trans a (by decide)) hF.2
    | 7,_ => left; exact far_dn (Nat.le_trans a (by decide)) hF.2
  unfold inB
  rcases key with k | k | k | k
  · rw [decide_eq_false (Int.not_le.mpr k)]; rfl
  · rw [decide_eq_false (Int.not_lt.mpr k),Bool.and_false]; rfl
  · rw [decide_eq_false (Int.not_le.mpr k),Bool.false_and,Bool.and_false]
  · rw [decide_eq_false (Int.not_lt.mpr k),Bool.and_false,Bool.and_false]
theorem inB_iff {fs rs : Nat} {f r : Int} : inB fs rs f r = true ↔ (0 ≤ f ∧ f < fs) ∧ 0 ≤ r ∧ r < rs := by
  unfold inB; simp only [Bool.and_eq_true,decide_eq_true_eq]
theorem in_sq {fs rs : Nat} {f r : Int} (h : inB fs rs f r = true) : r * (fs : Int) + f = (((r * fs + f).toNat : Nat) : Int) ∧ (r * (fs : Int) + f).toNat < fs * rs := by
  obtain ⟨⟨a,b⟩,c,d⟩ := inB_iff.mp h
  obtain ⟨F,rfl⟩ := Int.eq_ofNat_of_zero_le a
  obtain ⟨R,rfl⟩ := Int.eq_ofNat_of_zero_le c
  have e : (R : Int) * (fs : Int) + F = ((R * fs + F : Nat) : Int) := by rw [Int.natCast_add,Int.natCast_mul]
  rw [e,Int.toNat_natCast]
  refine ⟨rfl,?_⟩
  have h1 : (R + 1) * fs ≤ rs * fs := Nat.mul_le_mul_right fs (Int.ofNat_lt.mp d)
  rw [Nat.mul_comm fs rs]
  rw [Nat.succ_mul] at h1
  exact Nat.lt_of_lt_of_le (Nat.add_lt_add_left (Int.ofNat_lt.mp b) _) h1
variable {fs rs : Nat} (D : Dim fs rs)
include D
theorem t66 (hn : 66 < n) {bd wv : V} {ta : Nat} {y x z : Int} {q d : Nat} {b T : List Nat} (hx : x = fs) (hz : z = rs) (hy : y = q) (hq : q < fs * rs) (hd : d < 8) (eb : SqL (P0 sa zs).C h bd b) (hb : b.length = fs * rs) (ew : ∀ h : H,getSub (P0 sa zs).C h wv (.int (.ofNat 0)) = some (.int (wayF d)) ∧ getSub (P0 sa zs).C h wv (.int (.ofNat 1)) = some (.int (wayR d))) (et : SqL (P0 sa zs).C h (.ref ta) T) :
    callN (P0 sa zs) fnT n 66 [.int x,.int z,bd,.int y,wv,.ref ta] h = some (.ref h.length,h ++ [.lst ((cut (fun t => !T.contains (cell b t)) (rayL fs rs d q)).map vN)]) := by
  subst hx hz hy
  have hfs := D.1
  have hrs := D.2
  have hN := D.size.2
  have hF : 0 ≤ fileOf fs q ∧ fileOf fs q < fs := ⟨Int.natCast_nonneg _,Int.ofNat_lt.mpr (Nat.mod_lt q D.pos)⟩
  have hR : 0 ≤ rankOf fs q ∧ rankOf fs q < rs := ⟨Int.natCast_nonneg _,Int.ofNat_lt.mpr (div_lt_ranks hq)⟩
  have key : Meets (P0 sa zs) n 66 [.int fs,.int rs,bd,.int q,wv,.ref ta] h fun v h' => v = .ref h.length ∧ h' = h ++ [.lst ((cut (fun t => !T.contains (cell b t)) (rayL fs rs d q)).map vN)] := by
    refine call_wp m66 hn ⟨rfl,rfl,rfl,_,rfl,_,rfl,_,mod_ok rfl rfl D.pos,_,rfl,_,(ew _).1,rfl,_,rfl,_,rfl,_,div_ok rfl rfl D.pos (Nat.lt_of_le_of_lt hfs.2 (by decide)),_,rfl,_,(ew _).2,rfl,
      while_wp (J66a h fs rs bd wv ta q d b T) _ (fun k σ h' j => ?_) whileMax (n := 6) (by decide)
      ⟨[],_,_,rfl,rfl,rfl,rfl,by rw [show ((7 - 6 : Nat) : Int) = 1 from rfl,Int.mul_one]; rfl,by rw [show ((7 - 6 : Nat) : Int) = 1 from rfl,Int.mul_one]; rfl⟩⟩
    obtain ⟨l,f,r,rfl,rfl,hl,hk,hf,hr⟩ := j
    have T0 := tst_in (F := callN (P0 sa zs) fnT 66) (P := P0 sa zs) (h := h ++ [O.lst (l.map vN)]) (σ := [some (.int fs),some (.int rs),some bd,some (.int q),some wv,some (.ref ta),some (.ref h.length),some (.int f),some (.int r)]) (fs := fs) (rs := rs) (f := f) (r := r) (i := 7) (j := 0) (k := 8) (l := 1) rfl rfl rfl rfl
    refine T0 _ fun v hv => wTruth_of hv (fun c => ?_) (fun c => ?_)
    · have hk0 : k ≠ 0 := by
        rintro rfl
        have := way_far D hd hF hR
        rw [hf,hr] at c
        rw [show ((7 - 0 : Nat) : Int) = 7 from rfl,this] at c; exact ff c
      obtain ⟨k,rfl⟩ := Nat.exists_eq_succ_of_ne_zero hk0
      have k7 : k < 7 := Nat.lt_of_lt_of_le (Nat.lt_succ_self k) (Nat.le_succ_of_le (hk ▸ Nat.le_add_left ..))
      obtain ⟨i1,i2⟩ := in_sq c
      have bnd := inB_iff.mp c
      rw [walk_yes c] at hl
      have sm : binInt .Mult r (fs : Int) = some (r * fs) := mulr_ok (small_nat (Nat.lt_of_le_of_lt hfs.2 (by decide)))
      have pr := List.prefix_append h [O.lst ((l ++ [(r * (fs : Int) + f).toNat]).map vN)]
      have hset : (h ++ [O.lst (l.map vN)]).set h.length (.lst (l.map vN ++ [.int (r * (fs : Int) + f)])) = h ++ [O.lst ((l ++ [(r * (fs : Int) + f).toNat]).map vN)] := by
        rw [last_set,List.map_append,i1]; rfl
      have happ := app_lst (C := (P0 sa zs).C) (v := .int (r * (fs : Int) + f)) (last_get h (.lst (l.map vN))) (by rw [List.length_map]; exact lt_k hk (by decide))
      rw [hset] at happ
      have hcell := sq_at (obj_pre pr eb) i1 (by rw [hb]; exact i2) (big i2 hN)
      refine ⟨hk0,_,rfl,_,last_get h _,_,rfl,_,rfl,_,sm,_,rfl,_,_,happ,rfl,_,rfl,_,rfl,_,rfl,_,sm,_,rfl,_,hcell,_,rfl,_,notin_ok rfl (obj_pre pr et),fun s1 => ?_,fun s1 => ?_⟩
      · refine ⟨_,rfl,rfl,?_⟩
        have s1' : (!T.contains (cell b (r * (fs : Int) + f).toNat)) = true := s1
        rw [cut_yes (stop := fun t => !T.contains (cell b t)) s1'] at hl
        rw [← hl]
      · have s1' : (!T.contains (cell b (r * (fs : Int) + f).toNat)) = false := s1
        rw [cut_no (stop := fun t => !T.contains (cell b t)) s1'] at hl
        refine ⟨_,rfl,_,rfl,_,(ew _).1,_,rfl,_,rfl,_,(ew _).2,k,Nat.lt_succ_self k,l ++ [(r * (fs : Int) + f).toNat],f + wayF d,r + wayR d,rfl,rfl,by rw [← hl,List.append_assoc]; rfl,(congrArg (· + k) (app1 ..)).trans ((Nat.add_right_comm ..).trans hk),?_,?_⟩
        · rw [hf,show ((7 - k : Nat) : Int) = ((7 - (k + 1) : Nat) : Int) + 1 from congrArg (fun x : Nat => (x : Int)) (sub_succ' k7),Int.mul_add,Int.mul_one,Int.add_assoc]
        · rw [hr,show ((7 - k : Nat) : Int) = ((7 - (k + 1) : Nat) : Int) + 1 from congrArg (fun x : Nat => (x : Int)) (sub_succ' k7),Int.mul_add,Int.mul_one,Int.add_assoc]
    · refine ⟨_,rfl,rfl,?_⟩
      have hw : walk fs rs (wayF d) (wayR d) k f r = [] := by
        cases k with
        | zero => rfl
        | succ k => exact walk_no c
      rw [hw] at hl
      have hl : l ++ [] = _ := hl
      rw [List.append_nil] at hl
      rw [← hl]
  obtain ⟨v,h',e,rfl,rfl⟩ := key
  exact e
end
noncomputable def StepsAt (C : Nat → Option O) (h : H) (v : V) (St : List (Int × Int)) : Prop := ∃ L : List (V × (Int × Int)),objOf C h v = some (.lst (L.map (·.1))) ∧ L.map (·.2) = St ∧ ∀ x ∈ L,unpackV C h x.1 2 = some [.int x.2.1,.int x.2.2]
theorem unp_pre {C : Nat → Option O} {B h : H} (p : B <+: h) {v : V} {n : Nat} {xs : List V} (e : unpackV C B v n = some xs) : unpackV C h v n = some xs := by
  unfold unpackV at e ⊢
  cases ho : objOf C B v with
  | none => rw [ho] at e; exact nn e
  | some o => rw [ho] at e; rw [obj_pre p ho]; exact e
theorem StepsAt.mono {C : Nat → Option O} {B h : H} {v : V} {St : List (Int × Int)} (p : B <+: h) (x : StepsAt C B v St) : StepsAt C h v St := by
  obtain ⟨L,a,c,d⟩ := x
  exact ⟨L,obj_pre p a,c,fun y hy => unp_pre p (d y hy)⟩
inductive J67a (sa : Nat) (zs : List Int) (h : H) (fs : Nat) (rs : Nat) (sv : V) (q : Nat) (L0 : List (V × Int × Int)) (L : List (V × Int × Int)) (σ : Sig) (h' : H) : Prop
  | mk (l : List Nat) (c0 : ∃ o5 o6 o7 o8,σ = [some (.int fs),some (.int rs),some (.int q),some sv,some (.ref h.length),o5,o6,o7,o8]) (c1 : h' = h ++ [.lst (l.map vN)]) (c2 : l ++ hopsL fs rs q (L.map (·.2)) = hopsL fs rs q (L0.map (·.2))) (c3 : l.length + L.length ≤ 10) (c4 : ∀ x ∈ L,unpackV (P0 sa zs).C h x.1 2 = some [.int x.2.1,.int x.2.2]) : J67a sa zs h fs rs sv q L0 L σ h'
section
variable {sa : Nat} {zs : List Int} {n : Nat} {h : H}
theorem ways_at (h : H) : StepsAt (P0 sa zs).C h ((P0 sa zs).tabs 6) waysL :=
  ⟨[(.con 557,(0,1)),(.con 558,(1,0)),(.con 559,(0,-1)),(.con 560,(-1,0)),(.con 561,(1,1)),(.con 562,(1,-1)),(.con 563,(-1,-1)),(.con 564,(-1,1))],rfl,rfl,by
    intro x hx
    simp only [List.mem_cons,List.not_mem_nil,or_false] at hx
    rcases hx with rfl | rfl | rfl | rfl | rfl | rfl | rfl | rfl <;> rfl⟩
theorem jumps_at (h : H) : StepsAt (P0 sa zs).C h ((P0 sa zs).tabs 7) jumpsL :=
  ⟨[(.con 566,(1,2)),(.con 567,(2,1)),(.con 568,(2,-1)),(.con 569,(1,-2)),(.con 570,(-1,-2)),(.con 571,(-2,-1)),(.con 572,(-2,1)),(.con 573,(-1,2))],rfl,rfl,by
    intro x hx
    simp only [List.mem_cons,List.not_mem_nil,or_false] at hx
    rcases hx with rfl | rfl | rfl | rfl | rfl | rfl | rfl | rfl <;> rfl⟩
theorem hopsL_cons (fs rs q : Nat) (p : Int × Int) (r : List (Int × Int)) : hopsL fs rs q (p :: r) = match inB fs rs (fileOf fs q + p.1) (rankOf fs q + p.2) with
  | true => ((rankOf fs q + p.2) * fs + (fileOf fs q + p.1)).toNat :: hopsL fs rs q r
  | false => hopsL fs rs q r := by
  unfold hopsL
  rw [List.filterMap_cons]
  cases inB fs rs (fileOf fs q + p.1) (rankOf fs q + p.2) <;> rfl
variable {fs rs : Nat} (D : Dim fs rs)
include D
theorem t67 (hn : 67 < n) {sv : V} {y x z : Int} {q : Nat} {St : List (Int × Int)} (hx : x = fs) (hz : z = rs) (hy : y = q) (hq : q < fs * rs) (es : StepsAt (P0 sa zs).C h sv St) (hl : St.length ≤ 10) :
    callN (P0 sa zs) fnT n 67 [.int x,.int z,.int y,sv] h = some (.ref h.length,h ++ [.lst ((hopsL fs rs q St).map vN)]) := by
  subst hx hz hy
  have hfs := D.1
  have hrs := D.2
  have hN := D.size.2
  obtain ⟨L0,el,rfl,eu⟩ := es
  have key : Meets (P0 sa zs) n 67 [.int fs,.int rs,.int q,sv] h fun v h' => v = .ref h.length ∧ h' = h ++ [.lst ((hopsL fs rs q (L0.map (·.2))).map vN)] := by
    refine call_wp m67 hn ⟨rfl,rfl,rfl,_,rfl,_,_,obj_pre (List.prefix_append _ _) el,rfl,forT_wp (L := L0) (·.1) (J67a sa zs h fs rs sv q L0) _ (fun p L σ h' j => ?_) (fun σ h' j => ?_) rfl
      ⟨[],⟨none,none,none,none,rfl⟩,rfl,rfl,by rw [List.length_map] at hl; exact Nat.zero_add _ ▸ hl,eu⟩⟩
    · obtain ⟨l,⟨o5,o6,o7,o8,rfl⟩,rfl,hl,hk,hu⟩ := j
      have pr := fun l : List Nat => List.prefix_append h [O.lst (l.map vN)]
      have hu' : ∀ x ∈ L,unpackV (P0 sa zs).C h x.1 2 = some [.int x.2.1,.int x.2.2] := fun x hx => hu x (List.mem_cons_of_mem _ hx)
      rw [List.length_cons] at hk
      refine ⟨stable_of (obj_pre (pr l) el),_,_,unp_pre (pr l) (hu p List.mem_cons_self),rfl,_,rfl,_,rfl,_,mod_ok rfl rfl D.pos,_,rfl,rfl,_,rfl,_,rfl,_,div_ok rfl rfl D.pos (Nat.lt_of_le_of_lt hfs.2 (by decide)),_,rfl,rfl,
        sig_eq (σ := [_,_,_,_,_,_,_,_,_]) rfl (ite_tst (tst_in (fs := fs) (rs := rs) (f := fileOf fs q + p.2.1) (r := rankOf fs q + p.2.2) rfl rfl rfl rfl) (fun c => ?_) (fun c => ?_))⟩
      · obtain ⟨i1,i2⟩ := in_sq c
        have bnd := inB_iff.mp c
        have sm : binInt .Mult (rankOf fs q + p.2.2) (fs : Int) = some ((rankOf fs q + p.2.2) * fs) := mulr_ok (small_nat (Nat.lt_of_le_of_lt hfs.2 (by decide)))
        have happ := app_lst (C := (P0 sa zs).C) (v := .int ((rankOf fs q + p.2.2) * (fs : Int) + (fileOf fs q + p.2.1))) (last_get h (.lst (l.map vN))) (by rw [List.length_map]; exact le_k hk (by decide))
        have hset : (h ++ [O.lst (l.map vN)]).set h.length (.lst (l.map vN ++ [.int ((rankOf fs q + p.2.2) * (fs : Int) + (fileOf fs q + p.2.1))])) = h ++ [O.lst ((l ++ [((rankOf fs q + p.2.2) * (fs : Int) + (fileOf fs q + p.2.1)).toNat]).map vN)] := by
          rw [last_set,List.map_append,i1]; rfl
        rw [hset] at happ
        rw [List.map_cons,hopsL_cons,c] at hl
        exact ⟨_,rfl,_,last_get h _,_,rfl,_,rfl,_,sm,_,rfl,_,_,happ,rfl,_,⟨_,_,_,_,rfl⟩,rfl,by rw [← hl,List.append_assoc]; rfl,grow1 hk,hu'⟩
      · rw [List.map_cons,hopsL_cons,c] at hl
        exact ⟨l,⟨_,_,_,_,rfl⟩,rfl,hl,drop1 hk,hu'⟩
    · obtain ⟨l,⟨o5,o6,o7,o8,rfl⟩,rfl,hl,hk,hu⟩ := j
      refine ⟨stable_of (obj_pre (List.prefix_append _ _) el),_,rfl,rfl,?_⟩
      rw [← hl,List.map_nil]; show _ = h ++ [O.lst ((l ++ []).map vN)]; rw [List.append_nil]
  obtain ⟨v,h',e,rfl,rfl⟩ := key
  exact e
end
theorem ite_int {P : Par} {F : Call} {t : ME} {x y : Int} {σ : Sig} {h : H} {c : Bool} {Q : V → H → Prop} (w : Tst P F t σ h c) (q : Q (.int (bif c then x else y)) h) : wE P F (.ite t (.const (.int x)) (.const (.int y))) σ h Q :=
  iteE_tst w (fun z => by subst z; exact q) (fun z => by subst z; exact q)
theorem len_ok {C : Nat → Option O} {h : H} {v : V} {L : List Nat} (e : SqL C h v L) (hl : L.length ≤ 1000) : biV C 0 [v] h = some (vN L.length,h) := by
  refine bL_mk e ((if_pos ?_).trans ?_)
  · rw [List.length_map]; exact Nat.le_trans hl (by decide)
  · rw [List.length_map]
theorem rng_ok {C : Nat → Option O} {h : H} {a m : Nat} {B : Int} (e : h[a]? = some (.rng 0 B 1)) (hB : B = m) (hm : m ≤ 1000) : biV C 4 [.ref a] h = some (.ref h.length,h ++ [.lst ((List.range m).map vN)]) := by
  have hl : (rangeList 0 B 1).length = m := by
    have := congrArg List.length (range_zero hB)
    rwa [List.length_map,List.length_map,List.length_range] at this
  refine bR_mk e ((if_pos ?_).trans ?_)
  · rw [rangeOk_of ⟨by decide,by rw [hB]; exact Nat.le_trans hm (by decide)⟩,hl,decide_eq_true (Nat.le_trans hm (by decide))]; rfl
  · rw [range_zero hB]
theorem idx_cast (b : List Nat) (c : Nat) : (b.map fun (t : Nat) => (t : Int)).idxOf (c : Int) = b.idxOf c := by
  induction b with
  | nil => rfl
  | cons x r ih =>
    rw [List.map_cons,List.idxOf_cons,List.idxOf_cons,ih]
    have : ((x : Int) == (c : Int)) = (x == c) := by rw [Bool.eq_iff_iff,beq_iff_eq,beq_iff_eq]; exact Int.ofNat_inj
    rw [this]
theorem index_ok {C : Nat → Option O} {h : H} {v : V} {b : List Nat} {x : Int} {c : Nat} (e : SqL C h v b) (hx : x = c) (hc : c ∈ b) (ha : ∀ y ∈ b,y < 16) (hl : b.length ≤ 1000) : methV C 1 v (.int x) h = some (vN (b.idxOf c),h) := by
  subst hx
  have hall : (b.map fun (t : Nat) => (t : Int)).all (fun i => decide (i.natAbs ≤ 100000)) = true := List.all_eq_true.mpr fun x hx => by
    obtain ⟨y,hy,rfl⟩ := List.mem_map.mp hx
    have := ha y hy
    exact decide_eq_true (Nat.le_trans (Nat.le_of_lt this) (by decide))
  refine bL_mk e (bq_mk (ints_sq b) ((if_pos ?_).trans ?_))
  · rw [contains_cast,List.contains_iff_mem.mpr hc,List.length_map,decide_eq_true hl,hall]; rfl
  · rw [idx_cast]
theorem sq_ref {C : Nat → Option O} {h : H} {a : Nat} {L : List Nat} (e : h[a]? = some (.lst (L.map vN))) {x : Int} {k : Nat} (hx : x = k) (hk : k < L.length) (hm : k ≤ 1000000) : getSub C h (.ref a) (.int x) = some (vN (L.getD k 0)) := sq_at (v := .ref a) e hx hk hm
theorem walk_len (fs rs : Nat) (df dr : Int) : ∀ (k : Nat) (f r : Int),(walk fs rs df dr k f r).length ≤ k
  | 0,_,_ => Nat.le_refl _
  | k + 1,f,r => by
    cases c : inB fs rs f r with
    | true => rw [walk_yes c]; exact Nat.succ_le_succ (walk_len fs rs df dr k _ _)
    | false => rw [walk_no c]; exact Nat.zero_le _
section
variable {fs rs : Nat} {b : List Nat} (Y : Good fs rs b)
include Y
theorem cell_lt (t : Nat) : cell b t < 15 := (show ∀ c,c < 16 → c % 8 < 7 → c < 15 by decide) _ (Y.lt t) (Y.ok t).1
theorem mem_lt : ∀ y ∈ b,y < 16 := fun y hy => by
  obtain ⟨i,hi,rfl⟩ := List.mem_iff_getElem.mp hy
  have := Y.lt i
  rwa [cell,List.getD_eq_getElem?_getD,List.getElem?_eq_getElem hi] at this
theorem king_mem {s : Nat} (hs : s < 2) : 8 * s + 6 ∈ b := by
  have := (Y.king s hs).1
  rw [← Y.len] at this
  exact List.idxOf_lt_length_iff.mp this
theorem len_le : b.length ≤ 1000 := by rw [Y.len]; exact Nat.le_trans Y.dim.size.2 (by decide)
end
noncomputable def snD (s d : Nat) : List Nat := [(bif decide (d < 4) then 4 else 3) + (1 - s) * 8,5 + (1 - s) * 8]
noncomputable def scanB (b : List Nat) (s d : Nat) : List Nat → List Nat → Nat → Bool
  | _,[],_ => false
  | st,u :: r,t => bif (snD s d).contains (cell b u) then st == [t] || scanB b s d st r t else scanB b s d (bif occB b u then st ++ [u] else st) r t
theorem scan_cons {b : List Nat} {s d : Nat} {st : List Nat} {u : Nat} {r : List Nat} {t : Nat} : scanB b s d st (u :: r) t = bif (snD s d).contains (cell b u) then st == [t] || scanB b s d st r t else scanB b s d (bif occB b u then st ++ [u] else st) r t := rfl
theorem scan_nil {b : List Nat} {s d : Nat} {st : List Nat} {t : Nat} : scanB b s d st [] t = false := rfl
noncomputable def shL (fs rs : Nat) (b : List Nat) (s t : Nat) : Bool := (List.range 8).any fun d => scanB b s d [] (rayL fs rs d (kingOf b s)) t
inductive J68a (h : H) (fs : Nat) (rs : Nat) (b : List Nat) (bd : V) (z : Int) (s : Nat) (K : List Nat) (σ : Sig) (h' : H) : Prop
  | mk (fo : List Nat) (c0 : ∃ o6 o7 o8 o9,σ = [some (.int fs),some (.int rs),some bd,some (.int z),some (vN (kingOf b s)),some (.ref h.length),o6,o7,o8,o9]) (c1 : h <+: h') (c2 : h'[h.length]? = some (.lst (fo.map vN))) (c3 : ∀ t,(fo.contains t || K.any fun d => scanB b s d [] (rayL fs rs d (kingOf b s)) t) = shL fs rs b s t) (c4 : fo.length + 6 * K.length ≤ 48) (c5 : ∀ d ∈ K,d < 8) : J68a h fs rs b bd z s K σ h'
inductive J68b (h : H) (fs : Nat) (rs : Nat) (b : List Nat) (bd : V) (z : Int) (s : Nat) (d : Nat) (K : List Nat) (h' : H) (R : List Nat) (σ : Sig) (h'' : H) : Prop
  | mk (fo st : List Nat) (c0 : ∃ o9,σ = [some (.int fs),some (.int rs),some bd,some (.int z),some (vN (kingOf b s)),some (.ref h.length),some (vN d),some (.ref h'.length),some (.ref (h' ++ [O.lst ((snD s d).map vN)]).length),o9]) (c1 : h <+: h'') (c2 : h''[h.length]? = some (.lst (fo.map vN))) (c3 : h''[h'.length]? = some (.lst ((snD s d).map vN))) (c4 : h''[(h' ++ [O.lst ((snD s d).map vN)]).length]? = some (.lst (st.map vN))) (c5 : h''[(h' ++ [O.lst ((snD s d).map vN)] ++ [O.lst []] ++ [O.rng 0 (Int.ofNat 15) 1] ++ [O.lst ((List.range 15).map vN)]).length]? = some (.lst ((rayL fs rs d (kingOf b s)).map vN))) (c6 : ∀ t,((fo.contains t || scanB b s d st R t) || K.any fun d => scanB b s d [] (rayL fs rs d (kingOf b s)) t) = shL fs rs b s t) (c7 : fo.length + R.length + 6 * K.length ≤ 48) (c8 : st.length + R.length ≤ 6) (c9 : ∀ u ∈ R,u < fs * rs) : J68b h fs rs b bd z s d K h' R σ h''
section
variable {sa : Nat} {zs : List Int} {n : Nat} {h : H} {fs rs : Nat} {b : List Nat} (Y : Good fs rs b)
include Y
theorem t68 (hn : 68 < n) {bd : V} {x y z : Int} {s : Nat} (hx : x = fs) (hy : y = rs) (hz : z = s) (hs : s < 2) (eb : SqL (P0 sa zs).C h bd b) :
    Meets (P0 sa zs) n 68 [.int x,.int y,bd,.int z] h fun v h' => h <+: h' ∧ ∃ a L,v = .ref a ∧ SqL (P0 sa zs).C h' (.ref a) L ∧ ∀ t,L.contains t = shL fs rs b s t := by
  subst hx hy
  have D := Y.dim
  have hN := D.size.2
  have ek : z * Int.ofNat 8 + Int.ofNat 6 = ((8 * s + 6 : Nat) : Int) := by subst hz; rw [Nat.mul_comm]; rfl
  have e3 : (Int.ofNat 1 - z) * Int.ofNat 8 = (((1 - s) * 8 : Nat) : Int) := by rw [one_sub hz hs,Int.natCast_mul]; rfl
  have m3 : binInt .Mult (Int.ofNat 1 - z) (Int.ofNat 8) = some ((((1 - s) * 8 : Nat) : Int)) := (mulr_ok rfl).trans (congrArg some e3)
  have p0 := List.prefix_append h [O.lst []]
  refine call_wp m68 hn ⟨rfl,_,rfl,_,eb,_,rfl,_,mulr_ok rfl,_,_,index_ok eb ek (king_mem Y hs) (mem_lt Y) (len_le Y),rfl,rfl,rfl,_,rfl,rfl,
    forN_wp (L := List.range 8) (J68a h fs rs b bd z s) _ (fun d K σ h' j => ?_) (fun σ h' j => ?_) rfl
    ⟨[],⟨none,none,none,none,rfl⟩,p0,last_get h _,fun t => rfl,by decide,fun d hd => List.mem_range.mp hd⟩⟩
  · obtain ⟨fo,⟨o6,o7,o8,o9,rfl⟩,q1,q2,q3,q4,q5⟩ := j
    have hd := q5 d List.mem_cons_self
    rw [List.length_cons] at q4
    have hc : (bif decide ((d : Int) < Int.ofNat 4) then Int.ofNat 4 else Int.ofNat 3) + (((1 - s) * 8 : Nat) : Int) = (((bif decide (d < 4) then 4 else 3) + (1 - s) * 8 : Nat) : Int) := by
      have : decide ((d : Int) < Int.ofNat 4) = decide (d < 4) := by rw [decide_eq_decide]; exact lt_cast (n := 4)
      rw [this,Int.natCast_add]; cases decide (d < 4) <;> rfl
    have l7 : [V.int ((bif decide ((d : Int) < Int.ofNat 4) then Int.ofNat 4 else Int.ofNat 3) + (((1 - s) * 8 : Nat) : Int)),V.int (Int.ofNat 5 + (((1 - s) * 8 : Nat) : Int))] = (snD s d).map vN := by rw [hc]; rfl
    obtain ⟨w,w1,w2⟩ := way_ok (sa := sa) (zs := zs) (h' ++ [O.lst ((snD s d).map vN)] ++ [O.lst []]) hd
    have la := (List.getElem?_eq_some_iff.mp q2).1
    have pA := List.prefix_append h' [O.lst ((snD s d).map vN)]
    have pB := List.prefix_append (h' ++ [O.lst ((snD s d).map vN)]) [O.lst []]
    have pC := List.prefix_append (h' ++ [O.lst ((snD s d).map vN)] ++ [O.lst []]) [O.rng 0 (Int.ofNat 15) 1]
    have pD := List.prefix_append (h' ++ [O.lst ((snD s d).map vN)] ++ [O.lst []] ++ [O.rng 0 (Int.ofNat 15) 1]) [O.lst ((List.range 15).map vN)]
    have pE := List.prefix_append (h' ++ [O.lst ((snD s d).map vN)] ++ [O.lst []] ++ [O.rng 0 (Int.ofNat 15) 1] ++ [O.lst ((List.range 15).map vN)]) [O.lst ((rayL fs rs d (kingOf b s)).map vN)]
    have e66 := t66 (sa := sa) (zs := zs) (n := 68) D (by decide) (z := rs) rfl rfl rfl (king_lt Y hs) hd (obj_pre (((q1.trans (pA.trans pB)).trans pC).trans pD) eb) Y.len w2 (last_get (h' ++ [O.lst ((snD s d).map vN)] ++ [O.lst []] ++ [O.rng 0 (Int.ofNat 15) 1]) (.lst ((List.range 15).map vN)))
    rw [cut_none fun u _ => by rw [List.contains_iff_mem.mpr (List.mem_range.mpr (cell_lt Y u))]; rfl] at e66
    have hrl : (rayL fs rs d (kingOf b s)).length ≤ 6 := walk_len ..
    have n78 : h'.length ≠ (h' ++ [O.lst ((snD s d).map vN)]).length := Nat.ne_of_lt (lt_app ..)
    refine ⟨rfl,rfl,ite_int (c := decide ((d : Int) < Int.ofNat 4)) (fun Q k => ⟨_,rfl,k _ rfl⟩) ⟨_,rfl,_,m3,_,rfl,_,m3,rfl,rfl,rfl,rfl,?_⟩⟩
    rw [l7]
    refine sig_eq (σ := [_,_,_,_,_,_,_,_,_,_]) rfl ⟨_,rfl,_,rfl,_,rfl,_,rfl,_,rfl,_,w1,_,rfl,rfl,_,_,rng_ok (last_get _ _) rfl (by decide),_,_,e66,_,_,last_get _ _,rfl,
      forN_wp (L := rayL fs rs d (kingOf b s)) (J68b h fs rs b bd z s d K h') _ (fun u R σ h'' j => ?_) (fun σ h'' j => ?_) rfl
      ⟨fo,[],⟨_,rfl⟩,q1.trans ((((pA.trans pB).trans pC).trans pD).trans pE),get_pre ((((pA.trans pB).trans pC).trans pD).trans pE) q2,get_pre (((pB.trans pC).trans pD).trans pE) (last_get _ _),get_pre ((pC.trans pD).trans pE) (last_get _ _),last_get _ _,
        fun t => by rw [← q3 t,List.any_cons,Bool.or_assoc],Nat.le_trans (Nat.add_le_add_right (Nat.add_le_add_left hrl _) _) (by rw [Nat.add_right_comm]; exact q4),Nat.zero_add _ ▸ hrl,fun u hu => ray_lt D (king_lt Y hs) hd hu⟩⟩
    · obtain ⟨fo,st,⟨o9,rfl⟩,r1,r2,r3,r4,r5,r6,r7,r8,r9⟩ := j
      have hu := r9 u List.mem_cons_self
      have r9' : ∀ u ∈ R,u < fs * rs := fun u hu => r9 u (List.mem_cons_of_mem _ hu)
      rw [List.length_cons] at r7 r8
      have hcell := sq_at (obj_pre r1 eb) (x := (u : Int)) rfl (by rw [Y.len]; exact hu) (big hu hN)
      have n5r : h.length ≠ (h' ++ [O.lst ((snD s d).map vN)] ++ [O.lst []] ++ [O.rng 0 (Int.ofNat 15) 1] ++ [O.lst ((List.range 15).map vN)]).length := Nat.ne_of_lt (lt_app' (lt_app' (lt_app' (lt_app' la))))
      have n8r : (h' ++ [O.lst ((snD s d).map vN)]).length ≠ (h' ++ [O.lst ((snD s d).map vN)] ++ [O.lst []] ++ [O.rng 0 (Int.ofNat 15) 1] ++ [O.lst ((List.range 15).map vN)]).length := Nat.ne_of_lt (lt_app' (lt_app' (lt_app ..)))
      have n57 : h.length ≠ h'.length := Nat.ne_of_lt la
      have n58 : h.length ≠ (h' ++ [O.lst ((snD s d).map vN)]).length := Nat.ne_of_lt (lt_app' la)
      refine ⟨stable_of r5,rfl,ite_tst (c := (snD s d).contains (cell b u)) (fun Q k => ⟨_,rfl,_,rfl,_,hcell,_,rfl,_,in_ok rfl r3,k _ rfl⟩) (fun c1 => ?_) (fun c1 => ?_)⟩
      · have step : ∀ fo' : List Nat,(∀ t,fo'.contains t = (fo.contains t || st == [t])) → ∀ t,((fo'.contains t || scanB b s d st R t) || K.any fun d => scanB b s d [] (rayL fs rs d (kingOf b s)) t) = shL fs rs b s t := fun fo' hf t => by
          rw [← r6 t,scan_cons,c1,hf]; simp only [cond_true,Bool.or_assoc]
        refine ite_tst (c := ((st.length : Int) == Int.ofNat 1) && !fo.contains (st.getD 0 0)) (tst_and (fun Q k => ⟨_,rfl,_,_,len_ok r4 (Nat.le_of_lt (le_k r8 (by decide))),k _ rfl⟩) fun z1 Q k => ⟨_,rfl,_,sq_ref r4 (k := 0) rfl ?_ (by decide),_,rfl,_,notin_ok rfl r2,k _ rfl⟩) (fun c2 => ?_) (fun c2 => ?_)
        · exact eq_cast (n := 1).mp (eq_of_beq z1) ▸ Nat.one_pos
        · obtain ⟨z1,z2⟩ := Bool.and_eq_true_iff.mp c2
          have z1 : (st.length : Int) = 1 := eq_of_beq z1
          have z1 : st.length = 1 := eq_cast (n := 1).mp z1
          obtain ⟨w0,rfl⟩ := List.length_eq_one_iff.mp z1
          have hset : (V.int ((([w0] : List Nat).getD 0 0 : Nat) : Int)) = vN w0 := rfl
          refine ⟨_,rfl,_,r2,_,rfl,_,sq_ref r4 (k := 0) rfl Nat.one_pos (by decide),_,_,app_lst r2 (by rw [List.length_map]; exact le_k (Nat.le_trans (Nat.le_add_right ..) r7) (by decide)),rfl,fo ++ [w0],[w0],⟨_,rfl⟩,pre_set r1 (Nat.le_refl _) _,by rw [set_get r2,List.map_append]; rfl,by rw [set_ne n57]; exact r3,by rw [set_ne n58]; exact r4,by rw [set_ne n5r]; exact r5,step _ fun t => ?_,Nat.le_trans (Nat.add_le_add_right (grow1 (Nat.le_refl _)) _) r7,drop1 r8,r9'⟩
          rw [Bool.eq_iff_iff,List.contains_iff_mem,List.mem_append,Bool.or_eq_true,List.contains_iff_mem,List.mem_singleton,beq_iff_eq,List.cons.injEq]
          exact or_congr_right ⟨fun z => ⟨z.symm,rfl⟩,fun z => z.1.symm⟩
        · refine ⟨fo,st,⟨_,rfl⟩,r1,r2,r3,r4,r5,step _ fun t => ?_,Nat.le_trans (Nat.add_le_add_right (Nat.le_succ _) _) r7,drop1 r8,r9'⟩
          rw [Bool.eq_iff_iff,Bool.or_eq_true,beq_iff_eq]
          refine ⟨.inl,fun z => z.elim id fun e => ?_⟩
          subst e
          rw [Bool.and_eq_false_iff] at c2
          rcases c2 with c2 | c2
          · exact tt c2
          · exact by simpa using c2
      · refine ite_tst (c := !Nat.beq (cell b u) 0) (fun Q k => ⟨_,rfl,_,rfl,_,hcell,k _ tst_int⟩) (fun c2 => ?_) (fun c2 => ?_)
        · refine ⟨_,rfl,_,r4,_,rfl,_,_,app_lst r4 (by rw [List.length_map]; exact le_k r8 (by decide)),rfl,fo,st ++ [u],⟨_,rfl⟩,pre_set r1 (Nat.le_of_lt (lt_app' la)) _,by rw [set_ne n58.symm]; exact r2,by rw [set_ne n78.symm]; exact r3,by rw [set_get r4,List.map_append]; rfl,by rw [set_ne n8r]; exact r5,fun t => ?_,Nat.le_trans (Nat.add_le_add_right (Nat.le_succ _) _) r7,grow1 r8,r9'⟩
          rw [← r6 t,scan_cons,c1,show occB b u = true from c2]; rfl
        · refine ⟨fo,st,⟨_,rfl⟩,r1,r2,r3,r4,r5,fun t => ?_,Nat.le_trans (Nat.add_le_add_right (Nat.le_succ _) _) r7,drop1 r8,r9'⟩
          rw [← r6 t,scan_cons,c1,show occB b u = false from c2]; rfl
    · obtain ⟨fo,st,⟨o9,rfl⟩,r1,r2,r3,r4,r5,r6,r7,r8,r9⟩ := j
      refine ⟨stable_of r5,fo,⟨_,_,_,_,rfl⟩,r1,r2,fun t => ?_,r7,fun d hd => q5 d (List.mem_cons_of_mem _ hd)⟩
      rw [← r6 t,scan_nil,Bool.or_false]
  · obtain ⟨fo,⟨o6,o7,o8,o9,rfl⟩,q1,q2,q3,q4,q5⟩ := j
    exact ⟨rfl,_,rfl,q1,_,fo,rfl,q2,fun t => (Bool.or_false _).symm.trans (q3 t)⟩
end
theorem aug_lst {C : Nat → Option O} {h : H} {a c : Nat} {L M : List Nat} (ea : h[a]? = some (.lst (L.map vN))) (ec : h[c]? = some (.lst (M.map vN))) (n : c ≠ a) (hl : L.length + M.length ≤ 10000) : augV C .Add (.ref a) (.ref c) h = some (.ref a,h.set a (.lst ((L ++ M).map vN))) := by
  refine bL_mk ea (bL_mk (X := h[c]?) ec ((if_pos ?_).trans ?_))
  · rw [List.length_map,List.length_map,decide_eq_true (Nat.le_trans hl (by decide)),bne_iff_ne.mpr (show V.ref c ≠ V.ref a from fun z => n (by cases z; rfl))]; rfl
  · rw [List.map_append]
theorem small_sub {x y : Nat} (hx : x < 1000) (hy : y < 1000) : small ((x : Int) - (y : Int)) = true := small_lt (small_sub' hx hy)
noncomputable def dropS : Nat → MSs → MSs
  | 0,s => s
  | n + 1,.cons _ s => dropS n s
  | _ + 1,.nil => .nil
noncomputable def bodyOf (m : Option FnM) : MSs := match m with
  | some m => m.body
  | none => .nil
noncomputable def retQ (Q : V → H → Prop) : Fl → Sig → H → Prop := fun fl _ h' => match fl with
  | .ret v => Q v h'
  | .next => Q .none h'
  | _ => False
noncomputable def thr (s k : Nat) : List Nat := match k with
  | 4 => [0,5,13,s * 8 + 4]
  | 5 => [0]
  | _ => [0,5,13]
noncomputable def rowsL' (fs rs : Nat) (b : List Nat) (s k q : Nat) (K : List Nat) : List Nat := K.flatMap fun d => bif slides k d then cut (fun t => !(thr s k).contains (cell b t)) (rayL fs rs d q) else []
noncomputable def baseL (fs rs : Nat) (b : List Nat) (s k q : Nat) : List Nat := (match k with | 2 => hopsL fs rs q jumpsL | _ => []) ++ rowsL' fs rs b s k q (List.range 8)
noncomputable def reachL (fs rs : Nat) (b : List Nat) (q : Nat) (sh : Bool) : List Nat := match cell b q % 8 with
  | 1 => hopsL fs rs q (pawnL (cell b q / 8))
  | 6 => hopsL fs rs q waysL
  | k => bif sh then (baseL fs rs b (cell b q / 8) k q).filter (crossI fs (kingOf b (cell b q / 8)) q) else baseL fs rs b (cell b q / 8) k q
theorem cut_len (stop : Nat → Bool) : ∀ l : List Nat,(cut stop l).length ≤ l.length
  | [] => Nat.le_refl _
  | x :: r => by
    cases h : stop x with
    | true => rw [cut_yes h]; exact Nat.succ_le_succ (Nat.zero_le _)
    | false => rw [cut_no h]; exact Nat.succ_le_succ (cut_len stop r)
theorem slides_eq {k d : Nat} (hk : k = 2 ∨ k = 3 ∨ k = 4 ∨ k = 5) : ((((k : Nat) : Int) == Int.ofNat 5) || ((((k : Nat) : Int) == Int.ofNat 4 && decide ((d : Int) < Int.ofNat 4)) || (((k : Nat) : Int) == Int.ofNat 3 && decide ((d : Int) > Int.ofNat 3)))) = slides k d := by
  have h4 : decide ((d : Int) < Int.ofNat 4) = Nat.blt d 4 := by rw [blt_decide,decide_eq_decide]; exact lt_cast (n := 4)
  have h3 : decide ((d : Int) > Int.ofNat 3) = Nat.ble 4 d := by rw [ble_decide,decide_eq_decide]; exact lt_cast (k := 3)
  rcases hk with rfl | rfl | rfl | rfl
  · rfl
  · rw [h3]; show (false || (false || (true && Nat.ble 4 d))) = Nat.ble 4 d; simp
  · rw [h4]; show (false || ((true && Nat.blt d 4) || (false && _))) = Nat.blt d 4; simp
  · rfl
inductive J69a (h : H) (fs : Nat) (rs : Nat) (b : List Nat) (bd : V) (q : Nat) (s : Nat) (k : Nat) (a7 : Nat) (ss : Nat) (base0 : List Nat) (rj : Nat) (K : List Nat) (σ : Sig) (h'' : H) : Prop
  | mk (L : List Nat) (c0 : ∃ o9,σ = [some (.int fs),some (.int rs),some bd,some (vN q),some (.ref ss),some (vN s),some (vN k),some (.ref a7),some (.ref rj),o9,none,none,none]) (c1 : h <+: h'') (c2 : h''[a7]? = some (.lst (L.map vN))) (c3 : h''[rj]? = some (.lst ((thr s k).map vN))) (c4 : L ++ rowsL' fs rs b s k q K = base0 ++ rowsL' fs rs b s k q (List.range 8)) (c5 : L.length + 6 * K.length ≤ 58) (c6 : ∀ d ∈ K,d < 8) : J69a h fs rs b bd q s k a7 ss base0 rj K σ h''
section
variable {sa : Nat} {zs : List Int} {h : H} {fs rs : Nat} {b : List Nat} (Y : Good fs rs b)
include Y
theorem tail69 {bd : V} {q s k a7 ss : Nat} {S : List Nat} {h' : H} {base0 : List Nat} (hs : s < 2) (hk : k = 2 ∨ k = 3 ∨ k = 4 ∨ k = 5) (hq : q < fs * rs) (eb : SqL (P0 sa zs).C h bd b) (es : SqL (P0 sa zs).C h (.ref ss) S) (pre : h <+: h') (ha : h.length ≤ a7) (e7 : h'[a7]? = some (.lst (base0.map vN))) (hb0 : base0.length ≤ 10) :
    wSs (P0 sa zs) (callN (P0 sa zs) fnT 69) (dropS 6 (bodyOf m69.val)) [some (.int fs),some (.int rs),some bd,some (vN q),some (.ref ss),some (vN s),some (vN k),some (.ref a7),none,none,none,none,none] h'
      (retQ fun v h2 => h <+: h2 ∧ ∃ a,v = .ref a ∧ h.length ≤ a ∧ h2[a]? = some (.lst ((bif S.contains q then (base0 ++ rowsL' fs rs b s k q (List.range 8)).filter (crossI fs (kingOf b s) q) else base0 ++ rowsL' fs rs b s k q (List.range 8)).map vN))) := by
  have D := Y.dim
  have hN := D.size.2
  have hfs := D.1
  have hrs := D.2
  have hKl := king_lt Y hs
  have la := (List.getElem?_eq_some_iff.mp e7).1
  have ek : (s : Int) * Int.ofNat 8 + Int.ofNat 6 = ((8 * s + 6 : Nat) : Int) := by rw [Nat.mul_comm]; rfl
  have e4 : (s : Int) * Int.ofNat 8 + Int.ofNat 4 = ((s * 8 + 4 : Nat) : Int) := rfl
  have e13 : [V.int (Int.ofNat 0),V.int (Int.ofNat 5),V.int (Int.ofNat 13),V.int ((s : Int) * Int.ofNat 8 + Int.ofNat 4)] = [0,5,13,s * 8 + 4].map vN := by rw [e4]; rfl
  obtain ⟨h4,hh4⟩ : ∃ h4,h4 = h' ++ [O.lst ([0,5,13].map vN)] ++ [O.lst ([0,5,13,s * 8 + 4].map vN)] ++ [O.lst ([0].map vN)] ++ [O.lst [V.ref h'.length,V.ref (h' ++ [O.lst ([0,5,13].map vN)]).length,V.ref (h' ++ [O.lst ([0,5,13].map vN)] ++ [O.lst ([0,5,13,s * 8 + 4].map vN)]).length]] := ⟨_,rfl⟩
  obtain ⟨o4,ho4⟩ : ∃ o4,o4 = (h' ++ [O.lst ([0,5,13].map vN)] ++ [O.lst ([0,5,13,s * 8 + 4].map vN)] ++ [O.lst ([0].map vN)]).length := ⟨_,rfl⟩
  have pA := List.prefix_append h' [O.lst ([0,5,13].map vN)]
  have pB := List.prefix_append (h' ++ [O.lst ([0,5,13].map vN)]) [O.lst ([0,5,13,s * 8 + 4].map vN)]
  have pC := List.prefix_append (h' ++ [O.lst ([0,5,13].map vN)] ++ [O.lst ([0,5,13,s * 8 + 4].map vN)]) [O.lst ([0].map vN)]
  have pD := List.prefix_append (h' ++ [O.lst ([0,5,13].map vN)] ++ [O.lst ([0,5,13,s * 8 + 4].map vN)] ++ [O.lst ([0].map vN)]) [O.lst [V.ref h'.length,V.ref (h' ++ [O.lst ([0,5,13].map vN)]).length,V.ref (h' ++ [O.lst ([0,5,13].map vN)] ++ [O.lst ([0,5,13,s * 8 + 4].map vN)]).length]]
  have p4 : h' <+: h4 := by rw [hh4]; exact ((pA.trans pB).trans pC).trans pD
  obtain ⟨rj,hsub,hT,hr7⟩ : ∃ rj,getSub (P0 sa zs).C h4 (.ref o4) (.int ((if Int.ofNat 3 > ((k : Nat) : Int) then Int.ofNat 3 else ((k : Nat) : Int)) - Int.ofNat 3)) = some (.ref rj) ∧ h4[rj]? = some (.lst ((thr s k).map vN)) ∧ a7 ≠ rj := by
    have go := last_get (h' ++ [O.lst ([0,5,13].map vN)] ++ [O.lst ([0,5,13,s * 8 + 4].map vN)] ++ [O.lst ([0].map vN)]) (O.lst [V.ref h'.length,V.ref (h' ++ [O.lst ([0,5,13].map vN)]).length,V.ref (h' ++ [O.lst ([0,5,13].map vN)] ++ [O.lst ([0,5,13,s * 8 + 4].map vN)]).length])
    rw [← hh4,← ho4] at go
    rcases hk with rfl | rfl | rfl | rfl
    · exact ⟨_,sub_lst (v := .ref o4) go (by decide) (by decide) rfl,by rw [hh4]; exact get_pre ((pB.trans pC).trans pD) (last_get _ _),Nat.ne_of_lt la⟩
    · exact ⟨_,sub_lst (v := .ref o4) go (by decide) (by decide) rfl,by rw [hh4]; exact get_pre ((pB.trans pC).trans pD) (last_get _ _),Nat.ne_of_lt la⟩
    · exact ⟨_,sub_lst (v := .ref o4) go (by decide) (by decide) rfl,by rw [hh4]; exact get_pre (pC.trans pD) (last_get _ _),Nat.ne_of_lt (lt_app' la)⟩
    · exact ⟨_,sub_lst (v := .ref o4) go (by decide) (by decide) rfl,by rw [hh4]; exact get_pre pD (last_get _ _),Nat.ne_of_lt (lt_app' (lt_app' la))⟩
  subst hh4 ho4
  have r0 : a7 < (h' ++ [O.lst ([0,5,13].map vN)] ++ [O.lst ([0,5,13,s * 8 + 4].map vN)] ++ [O.lst ([0].map vN)] ++ [O.lst [V.ref h'.length,V.ref (h' ++ [O.lst ([0,5,13].map vN)]).length,V.ref (h' ++ [O.lst ([0,5,13].map vN)] ++ [O.lst ([0,5,13,s * 8 + 4].map vN)]).length]]).length := Nat.lt_of_lt_of_le la p4.length_le
  refine ⟨rfl,_,rfl,_,mulr_ok rfl,rfl,rfl,rfl,_,rfl,_,_,rfl,_,hsub,rfl,sig_eq (σ := [_,_,_,_,_,_,_,_,_,_,_,_,_]) rfl ⟨_,rfl,rfl,
    forN_wp (L := List.range 8) (J69a h fs rs b bd q s k a7 ss base0 rj) _ (fun d K σ h'' j => ?_) (fun σ h'' j => ?_) rfl
    ⟨base0,⟨_,rfl⟩,pre.trans p4,get_pre p4 e7,hT,rfl,Nat.add_le_add_right hb0 (6 * 8),fun d hd => List.mem_range.mp hd⟩⟩⟩
  · obtain ⟨L,⟨o9,rfl⟩,q1,q2,q3,q4,q5,q6⟩ := j
    have hd := q6 d List.mem_cons_self
    have q6' : ∀ d ∈ K,d < 8 := fun d hd => q6 d (List.mem_cons_of_mem _ hd)
    rw [List.length_cons] at q5
    have l7 := (List.getElem?_eq_some_iff.mp q2).1
    have hrow : rowsL' fs rs b s k q (d :: K) = (bif slides k d then cut (fun t => !(thr s k).contains (cell b t)) (rayL fs rs d q) else []) ++ rowsL' fs rs b s k q K := List.flatMap_cons ..
    rw [hrow] at q4
    refine ⟨rfl,rfl,ite_tst (c := slides k d) (slides_eq hk (d := d) ▸ tst_or (fun Q c => ⟨_,rfl,c _ rfl⟩) fun _ => tst_or (tst_and (fun Q c => ⟨_,rfl,c _ rfl⟩) fun _ Q c => ⟨_,rfl,c _ rfl⟩) fun _ => tst_and (fun Q c => ⟨_,rfl,c _ rfl⟩) fun _ Q c => ⟨_,rfl,c _ rfl⟩) (fun c1 => ?_) (fun c1 => ?_)⟩
    · obtain ⟨w,w1,w2⟩ := way_ok (sa := sa) (zs := zs) h'' hd
      have e66 := t66 (sa := sa) (zs := zs) (n := 69) D (by decide) (x := fs) (z := rs) (y := q) rfl rfl rfl hq hd (obj_pre q1 eb) Y.len w2 q3
      have pr := List.prefix_append h'' [O.lst ((cut (fun t => !(thr s k).contains (cell b t)) (rayL fs rs d q)).map vN)]
      have hcl : (cut (fun t => !(thr s k).contains (cell b t)) (rayL fs rs d q)).length ≤ 6 := Nat.le_trans (cut_len _ _) (walk_len ..)
      rw [c1] at q4
      refine ⟨_,rfl,_,rfl,_,rfl,_,rfl,_,rfl,_,rfl,_,w1,_,rfl,_,_,e66,_,_,aug_lst (get_pre pr q2) (last_get h'' _) (Nat.ne_of_gt l7) (Nat.le_trans (Nat.add_le_add (Nat.le_trans (Nat.le_add_right ..) q5) hcl) (by decide)),L ++ cut (fun t => !(thr s k).contains (cell b t)) (rayL fs rs d q),⟨_,rfl⟩,pre_set (q1.trans pr) ha _,set_get (get_pre pr q2),by rw [set_ne hr7]; exact get_pre pr q3,by rw [List.append_assoc]; exact q4,growM q5 hcl,q6'⟩
    · rw [c1] at q4
      exact ⟨L,⟨_,rfl⟩,q1,q2,q3,q4,dropM q5,q6'⟩
  · obtain ⟨L,⟨o9,rfl⟩,q1,q2,q3,q4,q5,q6⟩ := j
    rw [show rowsL' fs rs b s k q [] = [] from rfl,List.append_nil] at q4
    subst q4
    refine ⟨rfl,ite_tst (c := S.contains q) (fun Q c => ⟨_,rfl,_,rfl,_,in_ok rfl (obj_pre q1 es),c _ rfl⟩) (fun c1 => ?_) (fun c1 => ?_)⟩
    · rw [c1]
      have md := fun t : Nat => mod_ok (a := (t : Int)) (b := (fs : Int)) rfl rfl D.pos
      have dv := fun t : Nat => div_ok (a := (t : Int)) (b := (fs : Int)) rfl rfl D.pos (Nat.lt_of_le_of_lt hfs.2 (by decide))
      have hm := fun t : Nat => Nat.mod_lt t D.pos
      have hKd := div_lt_ranks hKl
      refine ⟨_,rfl,_,obj_pre q1 eb,_,rfl,_,mulr_ok rfl,_,_,index_ok (obj_pre q1 eb) ek (king_mem Y hs) (mem_lt Y) (len_le Y),rfl,_,rfl,_,rfl,_,md q,_,rfl,_,rfl,_,md _,rfl,_,rfl,_,rfl,_,dv q,_,rfl,_,rfl,_,dv _,rfl,
        sig_eq (σ := [_,_,_,_,_,_,_,_,_,_,_,_,_]) rfl ⟨_,rfl,_,_,q2,rfl,_,_,compF (crossI fs (kingOf b s) q) (stable_of q2) (fun t ht => ?_),?_,rfl,_,rfl,q1.trans (List.prefix_append _ _),_,rfl,q1.length_le,last_get _ _⟩⟩
      · have hmt := hm t
        have hmK := hm (kingOf b s)
        have hmq := hm q
        have hqd := div_lt_ranks hq
        have sm1 : small (((q / fs : Nat) : Int) - ((kingOf b s / fs : Nat) : Int)) = true := small_sub (Nat.lt_of_lt_of_le hqd (Nat.le_trans hrs.2 (by decide))) (Nat.lt_of_lt_of_le hKd (Nat.le_trans hrs.2 (by decide)))
        have sm2 : small (((q % fs : Nat) : Int) - ((kingOf b s % fs : Nat) : Int)) = true := small_sub (Nat.lt_of_lt_of_le hmq (Nat.le_trans hfs.2 (by decide))) (Nat.lt_of_lt_of_le hmK (Nat.le_trans hfs.2 (by decide)))
        exact fun Q c => ⟨_,rfl,_,rfl,_,md t,_,rfl,_,rfl,_,md _,_,rfl,_,mulr_ok sm1,_,rfl,_,rfl,_,dv t,_,rfl,_,rfl,_,dv _,_,rfl,_,mulr_ok sm2,c _ rfl⟩
      · rw [List.length_map]
        have h1 := List.length_filter_le (crossI fs (kingOf b s) q) (base0 ++ rowsL' fs rs b s k q (List.range 8))
        have h2 : (base0 ++ rowsL' fs rs b s k q (List.range 8)).length + 6 * 0 ≤ 58 := q5
        exact Nat.le_trans h1 (Nat.le_trans h2 (by decide))
    · rw [c1]
      exact ⟨_,rfl,q1,_,rfl,ha,q2⟩
end
theorem kind_range {fs rs : Nat} {b : List Nat} (Y : Good fs rs b) {q : Nat} (ho : occB b q = true) : 1 ≤ cell b q % 8 ∧ cell b q % 8 < 7 ∧ cell b q / 8 < 2 := by
  unfold occB at ho
  rw [Bool.not_eq_true',beq_ff] at ho
  have := Y.lt q
  exact ⟨Nat.pos_of_ne_zero fun z => ho ((Y.ok q).2 z),(Y.ok q).1,Nat.div_lt_of_lt_mul (Nat.lt_of_lt_of_le this (by decide))⟩
theorem hops_len (fs rs q : Nat) (St : List (Int × Int)) : (hopsL fs rs q St).length ≤ St.length := List.length_filterMap_le ..
section
variable {sa : Nat} {zs : List Int} {n : Nat} {h : H} {fs rs : Nat} {b : List Nat} (Y : Good fs rs b)
theorem pair_steps {C : Nat → Option O} (h : H) (s : Nat) : StepsAt C (h ++ [O.tup [V.int (-Int.ofNat 1),V.int (Int.ofNat 1 - Int.ofNat 2 * (s : Int))]] ++ [O.tup [V.int (Int.ofNat 1),V.int (Int.ofNat 1 - Int.ofNat 2 * (s : Int))]] ++ [O.lst [V.ref h.length,V.ref (h ++ [O.tup [V.int (-Int.ofNat 1),V.int (Int.ofNat 1 - Int.ofNat 2 * (s : Int))]]).length]])
    (.ref (h ++ [O.tup [V.int (-Int.ofNat 1),V.int (Int.ofNat 1 - Int.ofNat 2 * (s : Int))]] ++ [O.tup [V.int (Int.ofNat 1),V.int (Int.ofNat 1 - Int.ofNat 2 * (s : Int))]]).length) (pawnL s) := by
  refine ⟨[(.ref h.length,(-1,1 - 2 * (s : Int))),(.ref (h ++ [O.tup [V.int (-Int.ofNat 1),V.int (Int.ofNat 1 - Int.ofNat 2 * (s : Int))]]).length,(1,1 - 2 * (s : Int)))],last_get _ _,rfl,?_⟩
  intro x hx
  simp only [List.mem_cons,List.not_mem_nil,or_false] at hx
  rcases hx with rfl | rfl
  · exact unp_pre ((List.prefix_append _ _).trans (List.prefix_append _ _)) unp_last
  · exact unp_pre (List.prefix_append _ _) unp_last
include Y
theorem t69 (hn : 69 < n) {bd : V} {x y z : Int} {q ss : Nat} {S : List Nat} (hx : x = fs) (hy : y = rs) (hz : z = q) (hq : q < fs * rs) (ho : occB b q = true) (eb : SqL (P0 sa zs).C h bd b) (es : SqL (P0 sa zs).C h (.ref ss) S) :
    Meets (P0 sa zs) n 69 [.int x,.int y,bd,.int z,.ref ss] h fun v h2 => h <+: h2 ∧ ∃ a,v = .ref a ∧ h.length ≤ a ∧ h2[a]? = some (.lst ((reachL fs rs b q (S.contains q)).map vN)) := by
  subst hx hy hz
  have D := Y.dim
  have hN := D.size.2
  obtain ⟨k1,k7,s2⟩ := kind_range Y ho
  have hcell : getSub (P0 sa zs).C h bd (.int (q : Int)) = some (vN (cell b q)) := sq_at eb rfl (by rw [Y.len]; exact hq) (big hq hN)
  have dv : binInt .FloorDiv (cell b q : Int) (Int.ofNat 8) = some ((cell b q / 8 : Nat) : Int) := div_ok rfl rfl (by decide) (by decide)
  have md : binInt .Mod (cell b q : Int) (Int.ofNat 8) = some ((cell b q % 8 : Nat) : Int) := mod_ok rfl rfl (by decide)
  have hp : (hopsL fs rs q jumpsL).length ≤ 10 := Nat.le_trans (hops_len ..) (by decide)
  generalize hk : cell b q % 8 = k at k1 k7 md
  have hs : cell b q / 8 < 2 := s2
  rcases ((show ∀ k,k < 7 → 1 ≤ k → k = 1 ∨ k = 6 ∨ k = 2 ∨ (k = 3 ∨ k = 4 ∨ k = 5) by decide) k k7 k1) with rfl | rfl | rfl | hk'
  · have er : reachL fs rs b q (S.contains q) = hopsL fs rs q (pawnL (cell b q / 8)) := by unfold reachL; rw [hk]; rfl
    rw [er]
    exact call_wp m69 hn ⟨rfl,_,rfl,_,rfl,_,hcell,_,dv,rfl,_,rfl,_,rfl,_,hcell,_,md,rfl,sig_eq (σ := [_,_,_,_,_,_,_,_,_,_,_,_,_]) rfl ⟨_,rfl,fun _ => ⟨_,rfl,_,rfl,_,rfl,_,rfl,_,rfl,_,mul_ok rfl,rfl,_,rfl,_,mul_ok rfl,rfl,rfl,
      _,_,t67 D (by decide) rfl rfl rfl hq (pair_steps h (cell b q / 8)) (show 2 ≤ 10 by decide),(((List.prefix_append _ _).trans (List.prefix_append _ _)).trans (List.prefix_append _ _)).trans (List.prefix_append _ _),_,rfl,(((List.prefix_append _ _).trans (List.prefix_append _ _)).trans (List.prefix_append _ _)).length_le,last_get _ _⟩,nofun⟩⟩
  · have er : reachL fs rs b q (S.contains q) = hopsL fs rs q waysL := by unfold reachL; rw [hk]; rfl
    rw [er]
    exact call_wp m69 hn ⟨rfl,_,rfl,_,rfl,_,hcell,_,dv,rfl,_,rfl,_,rfl,_,hcell,_,md,rfl,sig_eq (σ := [_,_,_,_,_,_,_,_,_,_,_,_,_]) rfl ⟨_,rfl,nofun,fun _ => ⟨_,rfl,fun _ => ⟨_,rfl,_,rfl,_,rfl,_,_,t67 D (by decide) rfl rfl rfl hq (ways_at h) (by decide),List.prefix_append _ _,_,rfl,Nat.le_refl _,last_get _ _⟩,nofun⟩⟩⟩
  · have er : reachL fs rs b q (S.contains q) = bif S.contains q then (hopsL fs rs q jumpsL ++ rowsL' fs rs b (cell b q / 8) 2 q (List.range 8)).filter (crossI fs (kingOf b (cell b q / 8)) q) else hopsL fs rs q jumpsL ++ rowsL' fs rs b (cell b q / 8) 2 q (List.range 8) := by
      unfold reachL; rw [hk]; rfl
    rw [er]
    exact call_wp m69 hn ⟨rfl,_,rfl,_,rfl,_,hcell,_,dv,rfl,_,rfl,_,rfl,_,hcell,_,md,rfl,sig_eq (σ := [_,_,_,_,_,_,_,_,_,_,_,_,_]) rfl ⟨_,rfl,nofun,fun _ => ⟨_,rfl,nofun,fun _ => ⟨rfl,rfl,_,rfl,fun _ => ⟨_,rfl,_,rfl,_,rfl,_,_,t67 D (by decide) rfl rfl rfl hq (jumps_at _) (by decide),rfl,
      sig_eq (σ := [_,_,_,_,_,_,_,_,_,_,_,_,_]) rfl (tail69 Y hs (.inl rfl) hq eb es ((List.prefix_append _ _).trans (List.prefix_append _ _)) (List.prefix_append _ _).length_le (last_get _ _) hp)⟩,nofun⟩⟩⟩⟩
  · have er : reachL fs rs b q (S.contains q) = bif S.contains q then (([] : List Nat) ++ rowsL' fs rs b (cell b q / 8) k q (List.range 8)).filter (crossI fs (kingOf b (cell b q / 8)) q) else [] ++ rowsL' fs rs b (cell b q / 8) k q (List.range 8) := by
      unfold reachL; rw [hk]; rcases hk' with rfl | rfl | rfl <;> rfl
    rw [er]
    have n1 : ((k : Int) == Int.ofNat 1) = false := by rcases hk' with rfl | rfl | rfl <;> rfl
    have n6 : ((k : Int) == Int.ofNat 6) = false := by rcases hk' with rfl | rfl | rfl <;> rfl
    have n2 : ((k : Int) == Int.ofNat 2) = false := by rcases hk' with rfl | rfl | rfl <;> rfl
    exact call_wp m69 hn ⟨rfl,_,rfl,_,rfl,_,hcell,_,dv,rfl,_,rfl,_,rfl,_,hcell,_,md,rfl,sig_eq (σ := [_,_,_,_,_,_,_,_,_,_,_,_,_]) rfl ⟨_,rfl,fun z => absurd (z.symm.trans n1) (by decide),fun _ => ⟨_,rfl,fun z => absurd (z.symm.trans n6) (by decide),fun _ => ⟨rfl,rfl,_,rfl,fun z => absurd (z.symm.trans n2) (by decide),fun _ =>
      sig_eq (σ := [_,_,_,_,_,_,_,_,_,_,_,_,_]) rfl (tail69 (base0 := []) Y hs (.inr hk') hq eb es (List.prefix_append _ _) (Nat.le_refl _) (last_get _ _) (by decide))⟩⟩⟩⟩
end
theorem own_eq {b : List Nat} {s t : Nat} : (!Nat.beq (cell b t) 0 && (((cell b t / 8 : Nat) : Int) == (s : Int))) = ownB b s t := by
  have : (((cell b t / 8 : Nat) : Int) == (s : Int)) = Nat.beq (cell b t / 8) s := by rw [Bool.eq_iff_iff,beq_iff_eq,beq_iff',Int.ofNat_inj]
  rw [this]; rfl
noncomputable def rch (fs rs : Nat) (b : List Nat) (s q : Nat) : List Nat := reachL fs rs b q (shL fs rs b s q)
noncomputable def byL (fs rs : Nat) (b : List Nat) (s : Nat) (W : List Nat) (k : Nat) : List Nat := W.flatMap fun q => bif Nat.beq (cell b q % 8) k then rch fs rs b s q else []
noncomputable def allR (fs rs : Nat) (b : List Nat) (s : Nat) (W : List Nat) : List Nat := W.flatMap (rch fs rs b s)
noncomputable def ownL (fs rs : Nat) (b : List Nat) (s : Nat) : List Nat := (List.range (fs * rs)).filter (ownB b s)
structure LooksAt (C : Nat → Option O) (h : H) (v : V) (fs rs : Nat) (b : List Nat) (s : Nat) : Prop where
  sh : ∃ (a : Nat) (L : List Nat),getSub C h v (.int 0) = some (.ref a) ∧ h[a]? = some (.lst (L.map vN)) ∧ ∀ t,L.contains t = shL fs rs b s t
  by_ : ∃ v',getSub C h v (.int 2) = some v' ∧ ∀ k,k < 7 → ∃ a : Nat,getSub C h v' (.int (k : Nat)) = some (.ref a) ∧ h[a]? = some (.lst ((byL fs rs b s (ownL fs rs b s) k).map vN))
  tm : ∃ (a : Nat) (L : List Nat),getSub C h v (.int 3) = some (.ref a) ∧ h[a]? = some (.lst (L.map vN)) ∧ L.length = fs * rs ∧ ∀ t,t < fs * rs → L.getD t 0 = (allR fs rs b s (ownL fs rs b s)).count t
theorem LooksAt.mono {C : Nat → Option O} {B h : H} {v : V} {fs rs : Nat} {b : List Nat} {s : Nat} (p : B <+: h) (x : LooksAt C B v fs rs b s) : LooksAt C h v fs rs b s := by
  obtain ⟨⟨a,L,a1,a2,a3⟩,⟨v',b1,b2⟩,c,M,c1,c2,c3,c4⟩ := x
  exact ⟨⟨a,L,sub_pre p a1,get_pre p a2,a3⟩,⟨v',sub_pre p b1,fun k hk => let ⟨a,d1,d2⟩ := b2 k hk; ⟨a,sub_pre p d1,get_pre p d2⟩⟩,c,M,sub_pre p c1,get_pre p c2,c3,c4⟩
theorem base_len (fs rs : Nat) (b : List Nat) (s k q : Nat) : (baseL fs rs b s k q).length ≤ 56 := by
  have h1 : ∀ K : List Nat,(rowsL' fs rs b s k q K).length ≤ 6 * K.length := by
    intro K
    induction K with
    | nil => exact Nat.le_refl _
    | cons d K ih =>
      have e : rowsL' fs rs b s k q (d :: K) = (bif slides k d then cut (fun t => !(thr s k).contains (cell b t)) (rayL fs rs d q) else []) ++ rowsL' fs rs b s k q K := List.flatMap_cons ..
      rw [e,List.length_append,List.length_cons]
      have : (bif slides k d then cut (fun t => !(thr s k).contains (cell b t)) (rayL fs rs d q) else []).length ≤ 6 := by
        cases slides k d with
        | true => exact Nat.le_trans (cut_len _ _) (walk_len ..)
        | false => exact Nat.zero_le _
      rw [Nat.mul_succ,Nat.add_comm]; exact Nat.add_le_add ih this
  have h2 := h1 (List.range 8)
  rw [List.length_range] at h2
  unfold baseL
  rw [List.length_append]
  split
  · have h3 : (hopsL fs rs q jumpsL).length ≤ 8 := hops_len ..
    exact Nat.add_le_add h3 h2
  · exact Nat.add_le_add (Nat.zero_le 8) h2
theorem reach_len (fs rs : Nat) (b : List Nat) (q : Nat) (sh : Bool) : (reachL fs rs b q sh).length ≤ 56 := by
  unfold reachL
  split
  · exact Nat.le_trans (hops_len ..) (show 2 ≤ 56 by decide)
  · exact Nat.le_trans (hops_len ..) (show 8 ≤ 56 by decide)
  · cases sh with
    | true => exact Nat.le_trans (List.length_filter_le _ _) (base_len ..)
    | false => exact base_len ..
theorem base_lt {fs rs : Nat} {b : List Nat} (Y : Good fs rs b) {s k q : Nat} (hq : q < fs * rs) : ∀ t ∈ baseL fs rs b s k q,t < fs * rs := by
  intro t ht
  unfold baseL at ht
  rcases List.mem_append.mp ht with h | h
  · split at h
    · exact (lt_all Y.dim hq).2.2.1 t h
    · cases h
  · obtain ⟨d,hd,h⟩ := List.mem_flatMap.mp h
    have hd := List.mem_range.mp hd
    cases hs : slides k d with
    | true => rw [hs] at h; exact ray_lt Y.dim hq hd (cut_sub h)
    | false => rw [hs] at h; cases h
theorem reach_lt {fs rs : Nat} {b : List Nat} (Y : Good fs rs b) {q : Nat} (hq : q < fs * rs) {sh : Bool} : ∀ t ∈ reachL fs rs b q sh,t < fs * rs := by
  intro t ht
  have hc := Y.lt q
  unfold reachL at ht
  split at ht
  · rcases (two_ways (Nat.div_lt_of_lt_mul (Nat.lt_of_lt_of_le hc (by decide)) : cell b q / 8 < 2)) with e | e
    · rw [e] at ht; exact (lt_all Y.dim hq).2.2.2.1 t ht
    · rw [e] at ht; exact (lt_all Y.dim hq).2.2.2.2 t ht
  · exact (lt_all Y.dim hq).2.1 t ht
  · cases sh with
    | true => exact base_lt Y hq t (List.mem_filter.mp ht).1
    | false => exact base_lt Y hq t ht
theorem app_get (h : H) (os : List O) (i : Nat) : (h ++ os)[h.length + i]? = os[i]? := by
  rw [List.getElem?_append_right (Nat.le_add_right ..),Nat.add_sub_cancel_left]
theorem count_set {L : List Nat} {u : Nat} (hu : u < L.length) (x t : Nat) : (L.set u x).getD t 0 = if t = u then x else L.getD t 0 := by
  rw [List.getD_eq_getElem?_getD,List.getD_eq_getElem?_getD,List.getElem?_set]
  by_cases e : u = t
  · subst e; rw [if_pos rfl,if_pos hu,if_pos rfl]; rfl
  · rw [if_neg e,if_neg (fun z => e z.symm)]
theorem byL_add {fs rs : Nat} {b : List Nat} {s : Nat} {W : List Nat} {q k : Nat} : byL fs rs b s (W ++ [q]) k = byL fs rs b s W k ++ (bif Nat.beq (cell b q % 8) k then rch fs rs b s q else []) := by
  unfold byL; rw [List.flatMap_append,List.flatMap_cons,List.flatMap_nil,List.append_nil]
theorem allR_add {fs rs : Nat} {b : List Nat} {s : Nat} {W : List Nat} {q : Nat} : allR fs rs b s (W ++ [q]) = allR fs rs b s W ++ rch fs rs b s q := by
  unfold allR; rw [List.flatMap_append,List.flatMap_cons,List.flatMap_nil,List.append_nil]
theorem byL_len (fs rs : Nat) (b : List Nat) (s k : Nat) : ∀ W : List Nat,(byL fs rs b s W k).length ≤ 56 * W.length
  | [] => Nat.le_refl _
  | q :: W => by
    have e : byL fs rs b s (q :: W) k = (bif Nat.beq (cell b q % 8) k then rch fs rs b s q else []) ++ byL fs rs b s W k := List.flatMap_cons ..
    rw [e,List.length_append,List.length_cons]
    have h1 := byL_len fs rs b s k W
    have h2 : (bif Nat.beq (cell b q % 8) k then rch fs rs b s q else []).length ≤ 56 := by
      cases Nat.beq (cell b q % 8) k with
      | true => exact reach_len ..
      | false => exact Nat.zero_le _
    exact add56 h2 h1
structure HalfLook (h h' : H) (fs rs : Nat) (b : List Nat) (s a5 B a6 a7 : Nat) (W : List Nat) : Prop where
  pre : h <+: h'
  ord : h.length ≤ a5 ∧ a5 < B ∧ B + 7 ≤ a6 ∧ a6 < a7
  re : ∃ re,h'[a5]? = some (.lst re) ∧ re.length ≤ W.length
  rows : ∀ k,k < 7 → h'[B + k]? = some (.lst ((byL fs rs b s W k).map vN))
  by_ : h'[a6]? = some (.lst ((List.range 7).map fun k => V.ref (B + k)))
theorem HalfLook.app {h h' : H} {fs rs : Nat} {b : List Nat} {s a5 B a6 a7 : Nat} {W : List Nat} (x : HalfLook h h' fs rs b s a5 B a6 a7 W) (os : H) : HalfLook h (h' ++ os) fs rs b s a5 B a6 a7 W := by
  obtain ⟨a,o,⟨re,c1,c2⟩,d,e⟩ := x
  have p := List.prefix_append h' os
  exact ⟨a.trans p,o,⟨re,get_pre p c1,c2⟩,fun k hk => get_pre p (d k hk),get_pre p e⟩
theorem HalfLook.set {h h' : H} {fs rs : Nat} {b : List Nat} {s a5 B a6 a7 : Nat} {W : List Nat} (x : HalfLook h h' fs rs b s a5 B a6 a7 W) (o : O) : HalfLook h (h'.set a7 o) fs rs b s a5 B a6 a7 W := by
  obtain ⟨a,ord,⟨re,c1,c2⟩,d,e⟩ := x
  have n5 := ord_a ord.2.1 ord.2.2.1
  exact ⟨pre_set a (Nat.le_trans ord.1 (Nat.le_of_lt (Nat.lt_trans n5 ord.2.2.2))) _,ord,⟨re,by rw [set_ne (Nat.ne_of_gt (Nat.lt_trans n5 ord.2.2.2))]; exact c1,c2⟩,fun k hk => by rw [set_ne (Nat.ne_of_gt (Nat.lt_trans (ord_6 ord.2.2.1 hk) ord.2.2.2))]; exact d k hk,by rw [set_ne (Nat.ne_of_gt ord.2.2.2)]; exact e⟩
theorem HalfLook.step {h h' : H} {fs rs : Nat} {b : List Nat} {s a5 B a6 a7 : Nat} {W : List Nat} (x : HalfLook h h' fs rs b s a5 B a6 a7 W) {q : Nat} (hk : cell b q % 8 < 7) {re' : List V} {re0 : List V} (e5 : h'[a5]? = some (.lst re0)) (hr : re'.length ≤ W.length + 1) (o6 : O) (ho : o6 = .lst ((List.range 7).map fun k => V.ref (B + k))) :
    HalfLook h (((h'.set a5 (.lst re')).set (B + cell b q % 8) (.lst ((byL fs rs b s W (cell b q % 8) ++ rch fs rs b s q).map vN))).set a6 o6) fs rs b s a5 B a6 a7 (W ++ [q]) := by
  subst ho
  obtain ⟨a,ord,_,d,e⟩ := x
  have n56 := ord_a ord.2.1 ord.2.2.1
  have n5 : ∀ {k : Nat},a5 < B + k := ord_b ord.2.1
  have n6 : ∀ {k : Nat},k < 7 → B + k < a6 := ord_6 ord.2.2.1
  refine ⟨pre_set (pre_set (pre_set a ord.1 _) (Nat.le_trans ord.1 (Nat.le_of_lt n5)) _) (Nat.le_trans ord.1 (Nat.le_of_lt n56)) _,ord,⟨re',?_,by rw [List.length_append]; exact hr⟩,fun k hk' => ?_,?_⟩
  · rw [set_ne (Nat.ne_of_gt n56),set_ne (Nat.ne_of_gt n5)]; exact set_get e5
  · rw [set_ne (Nat.ne_of_gt (n6 hk'))]
    by_cases c : k = cell b q % 8
    · subst c
      rw [set_get (by rw [set_ne (Nat.ne_of_lt n5)]; exact d _ hk'),byL_add,Nat.beq_refl]; rfl
    · rw [set_ne (fun z => c (Nat.add_left_cancel z).symm),set_ne (Nat.ne_of_lt n5),d k hk',byL_add,beq_ff.mpr (fun z => c z.symm)]
      show _ = some (O.lst ((_ ++ []).map vN)); rw [List.append_nil]
  · exact set_get (by rw [set_ne (Nat.ne_of_lt (n6 hk)),set_ne (Nat.ne_of_lt n56)]; exact e)
inductive J70a (h : H) (fs : Nat) (rs : Nat) (b : List Nat) (bd : V) (s : Nat) (h1 : H) (ash : Nat) (S : List Nat) (K : List Nat) (σ : Sig) (h' : H) : Prop
  | mk (W TM : List Nat) (a5 B a6 a7 : Nat) (c0 : ∃ o8 o9 o10,σ = [some (.int fs),some (.int rs),some bd,some (vN s),some (.ref ash),some (.ref a5),some (.ref a6),some (.ref a7),o8,o9,o10]) (c1 : HalfLook h h' fs rs b s a5 B a6 a7 W) (c2 : h'[ash]? = some (.lst (S.map vN))) (c3 : h1 <+: h1) (c4 : ash < a5) (c5 : h'[a7]? = some (.lst (TM.map vN))) (c6 : TM.length = fs * rs) (c7 : ∀ t,t < fs * rs → TM.getD t 0 = (allR fs rs b s W).count t) (c8 : W ++ K.filter (ownB b s) = ownL fs rs b s) (c9 : ∀ t ∈ K,t < fs * rs) : J70a h fs rs b bd s h1 ash S K σ h'
inductive J70b (h : H) (fs : Nat) (rs : Nat) (b : List Nat) (bd : V) (s : Nat) (ash : Nat) (S : List Nat) (q : Nat) (W : List Nat) (a5 : Nat) (B : Nat) (a6 : Nat) (a7 : Nat) (a9 : Nat) (R : List Nat) (σ : Sig) (h'' : H) : Prop
  | mk (TM : List Nat) (c0 : ∃ o10,σ = [some (.int fs),some (.int rs),some bd,some (vN s),some (.ref ash),some (.ref a5),some (.ref a6),some (.ref a7),some (vN q),some (.ref a9),o10]) (c1 : HalfLook h h'' fs rs b s a5 B a6 a7 (W ++ [q])) (c2 : h''[a9]? = some (.lst ((rch fs rs b s q).map vN))) (c3 : h''[ash]? = some (.lst (S.map vN))) (c4 : h''[a7]? = some (.lst (TM.map vN))) (c5 : TM.length = fs * rs) (c6 : ∀ t,t < fs * rs → TM.getD t 0 + R.count t = (allR fs rs b s (W ++ [q])).count t) (c7 : ∀ t ∈ R,t < fs * rs) : J70b h fs rs b bd s ash S q W a5 B a6 a7 a9 R σ h''
section
variable {sa : Nat} {zs : List Int} {n : Nat} {h : H} {fs rs : Nat} {b : List Nat} (Y : Good fs rs b)
include Y
theorem t70 (hn : 70 < n) {bd : V} {x y z : Int} {s : Nat} (hx : x = fs) (hy : y = rs) (hz : z = s) (hs : s < 2) (eb : SqL (P0 sa zs).C h bd b) :
    Meets (P0 sa zs) n 70 [.int x,.int y,bd,.int z] h fun v h' => h <+: h' ∧ (∃ a,v = .ref a) ∧ LooksAt (P0 sa zs).C h' v fs rs b s := by
  subst hx hy hz
  have D := Y.dim
  have hN := D.size.2
  obtain ⟨v68,h1,e68,p1,ash,S,rfl,eS,hS⟩ := t68 (sa := sa) (zs := zs) (n := 70) (h := h) Y (by decide) (x := fs) (y := rs) (z := s) rfl rfl rfl hs eb
  have hb1 := obj_pre p1 eb
  have hlen : ∀ {h' : H},h <+: h' → biV (P0 sa zs).C 0 [bd] h' = some (V.int ((fs * rs : Nat) : Int),h') := fun p => by rw [len_ok (obj_pre p eb) (len_le Y),Y.len]
  have hown : ∀ t ∈ ownL fs rs b s,t < fs * rs := fun t ht => List.mem_range.mp (List.mem_filter.mp ht).1
  have hol : (ownL fs rs b s).length ≤ 30 := by
    have := List.length_filter_le (ownB b s) (List.range (fs * rs)); rw [List.length_range] at this; exact Nat.le_trans this hN
  have pz : ∀ os : List O,h <+: h1 ++ os := fun os => p1.trans (List.prefix_append _ _)
  let os := [O.lst [],O.lst [],O.lst [],O.lst [],O.lst [],O.lst [],O.lst [],O.lst []]
  refine call_wp m70 hn ⟨rfl,_,rfl,_,rfl,_,rfl,_,rfl,_,_,e68,rfl,rfl,rfl,rfl,rfl,rfl,rfl,rfl,rfl,rfl,rfl,rfl,rfl,_,rfl,_,_,hlen ?_,_,_,mul_lst (k := fs * rs) (last_get _ _) rfl (Nat.le_trans hN (by decide)),rfl,
    sig_eq (σ := [_,_,_,_,_,_,_,_,_,_,_]) rfl ⟨_,rfl,_,_,hlen ?_,_,rfl,rangeOk_of ⟨by decide,Nat.le_trans hN (by decide)⟩,
    forN_wp (L := List.range (fs * rs)) (J70a h fs rs b bd s h1 ash S) _ (fun q K σ h' j => ?_) (fun σ h' j => ?_) (range_zero rfl)
    ?_⟩⟩
  · simp only [List.append_assoc]; exact pz _
  · simp only [List.append_assoc]; exact pz _
  · obtain ⟨W,TM,a5,B,a6,a7,⟨o8,o9,o10,rfl⟩,HL,eSh,_,hsa,eT,lT,cT,hW,hK⟩ := j
    have hq := hK q List.mem_cons_self
    have hK' : ∀ t ∈ K,t < fs * rs := fun t ht => hK t (List.mem_cons_of_mem _ ht)
    have hcell : ∀ {h' : H},h <+: h' → getSub (P0 sa zs).C h' bd (.int (q : Int)) = some (vN (cell b q)) := fun p => sq_at (obj_pre p eb) rfl (by rw [Y.len]; exact hq) (big hq hN)
    have dv : binInt .FloorDiv (cell b q : Int) (Int.ofNat 8) = some ((cell b q / 8 : Nat) : Int) := div_ok rfl rfl (by decide) (by decide)
    have md : binInt .Mod (cell b q : Int) (Int.ofNat 8) = some ((cell b q % 8 : Nat) : Int) := mod_ok rfl rfl (by decide)
    refine ⟨rfl,rfl,ite_tst (c := ownB b s q) (own_eq ▸ tst_and (fun Q c => ⟨_,rfl,_,rfl,_,hcell HL.pre,c _ tst_int⟩) fun _ Q c => ⟨_,rfl,_,rfl,_,hcell HL.pre,_,dv,_,rfl,c _ rfl⟩) (fun c1 => ?_) (fun c1 => ?_)⟩
    · have ho := own_occ c1
      obtain ⟨k1,k7,_⟩ := kind_range Y ho
      have hs' : cell b q / 8 = s := beq_iff'.mp (Bool.and_eq_true_iff.mp c1).2
      rw [List.filter_cons_of_pos c1] at hW
      have hWl : W.length + 1 ≤ 30 := by
        have e := congrArg List.length hW
        rw [List.length_append,List.length_cons] at e; exact Nat.le_trans (Nat.succ_le_succ (Nat.le_add_right ..)) (e ▸ hol)
      obtain ⟨v69,h2,e69,p2,a9,rfl,l9,eR⟩ := t69 (sa := sa) (zs := zs) (n := 70) (h := h') Y (by decide) (x := fs) (y := rs) (z := q) rfl rfl rfl hq ho (obj_pre HL.pre eb) eSh
      have hR : reachL fs rs b q (S.contains q) = rch fs rs b s q := by unfold rch; rw [hS]
      rw [hR] at eR
      have hrl : (rch fs rs b s q).length ≤ 56 := reach_len ..
      have hrt : ∀ t ∈ rch fs rs b s q,t < fs * rs := reach_lt Y hq
      obtain ⟨os,rfl⟩ := p2
      have H2 := HL.app os
      have H3 := H2.app [O.tup [vN (cell b q % 8),.ref a9]]
      have pr := List.prefix_append (h' ++ os) [O.tup [vN (cell b q % 8),.ref a9]]
      obtain ⟨re,er,rl⟩ := H3.re
      have hap := app_lst (C := (P0 sa zs).C) (v := .ref (h' ++ os).length) er (Nat.lt_of_le_of_lt (Nat.le_trans rl (Nat.le_of_succ_le hWl)) (by decide))
      have hbl := byL_len fs rs b s (cell b q % 8) W
      obtain ⟨o1,o2,o3,o4⟩ := H3.ord
      have l6 := (List.getElem?_eq_some_iff.mp HL.by_).1
      have n56 := ord_a o2 o3
      have n5 : ∀ {k : Nat},a5 < B + k := ord_b o2
      have n6 : B + cell b q % 8 < a6 := ord_6 o3 k7
      have n7 := Nat.lt_trans n6 o4
      have n57 := Nat.lt_trans n56 o4
      have l7 := (List.getElem?_eq_some_iff.mp eT).1
      have er9 := get_pre pr eR
      have n79 : a7 < a9 := Nat.lt_of_lt_of_le l7 l9
      have old : ∀ {o : O},getSub (P0 sa zs).C ((h' ++ os ++ [O.tup [vN (cell b q % 8),.ref a9]]).set a5 o) (.ref a6) (.int ((cell b q % 8 : Nat) : Int)) = some (.ref (B + cell b q % 8)) := fun {o} =>
        sub_lst (v := .ref a6) (by show ((h' ++ os ++ _).set a5 o)[a6]? = _; rw [set_ne (Nat.ne_of_lt n56)]; exact H3.by_) (Int.natCast_nonneg _) (Int.ofNat_le.mpr (big_lt k7)) (by rw [Int.toNat_natCast,List.getElem?_map,List.getElem?_range k7]; rfl)
      have hag := aug_lst (C := (P0 sa zs).C) (h := (h' ++ os ++ [O.tup [vN (cell b q % 8),.ref a9]]).set a5 (.lst (re ++ [.ref (h' ++ os).length]))) (a := B + cell b q % 8) (c := a9) (L := byL fs rs b s W (cell b q % 8)) (M := rch fs rs b s q) (by rw [set_ne (Nat.ne_of_lt n5)]; exact H3.rows _ k7) (by rw [set_ne (Nat.ne_of_lt (Nat.lt_trans n57 n79))]; exact er9) (Nat.ne_of_gt (Nat.lt_trans n7 n79)) (Nat.le_trans (Nat.add_le_add (Nat.le_trans hbl (Nat.mul_le_mul_left 56 (Nat.le_of_succ_le hWl))) hrl) (by decide))
      have hst := set_lst (h := ((h' ++ os ++ [O.tup [vN (cell b q % 8),.ref a9]]).set a5 (.lst (re ++ [.ref (h' ++ os).length]))).set (B + cell b q % 8) (.lst ((byL fs rs b s W (cell b q % 8) ++ rch fs rs b s q).map vN))) (a := a6) (xs := (List.range 7).map fun k => V.ref (B + k)) (x := ((cell b q % 8 : Nat) : Int)) (k := cell b q % 8) (v := .ref (B + cell b q % 8)) (by rw [set_ne (Nat.ne_of_lt n6),set_ne (Nat.ne_of_lt n56)]; exact H3.by_) rfl (by rw [List.length_map,List.length_range]; exact k7) (big_lt k7)
      have hsame : ((List.range 7).map fun k => V.ref (B + k)).set (cell b q % 8) (.ref (B + cell b q % 8)) = (List.range 7).map fun k => V.ref (B + k) := by
        refine List.ext_getElem? fun i => ?_
        rw [List.getElem?_set]
        by_cases c : cell b q % 8 = i
        · subst c; rw [if_pos rfl,List.length_map,List.length_range,if_pos k7,List.getElem?_map,List.getElem?_range k7]; rfl
        · rw [if_neg c]
      rw [hsame] at hst
      have H4 := H3.step (q := q) k7 (re' := re ++ [.ref (h' ++ os).length]) er (by rw [app1]; exact Nat.succ_le_succ rl) _ rfl
      obtain ⟨hF,hFe⟩ : ∃ hF,hF = (((h' ++ os ++ [O.tup [vN (cell b q % 8),.ref a9]]).set a5 (.lst (re ++ [.ref (h' ++ os).length]))).set (B + cell b q % 8) (.lst ((byL fs rs b s W (cell b q % 8) ++ rch fs rs b s q).map vN))).set a6 (.lst ((List.range 7).map fun k => V.ref (B + k))) := ⟨_,rfl⟩
      have n9 : a9 < (h' ++ os).length := (List.getElem?_eq_some_iff.mp eR).1
      have f9 : hF[a9]? = some (.lst ((rch fs rs b s q).map vN)) := by rw [hFe,set_ne (Nat.ne_of_lt (Nat.lt_trans o4 n79)),set_ne (Nat.ne_of_lt (Nat.lt_trans n7 n79)),set_ne (Nat.ne_of_lt (Nat.lt_trans n57 n79))]; exact er9
      have f7 : hF[a7]? = some (.lst (TM.map vN)) := by rw [hFe,set_ne (Nat.ne_of_lt o4),set_ne (Nat.ne_of_lt n7),set_ne (Nat.ne_of_lt n57)]; exact get_pre (List.prefix_append _ _) (get_pre (List.prefix_append _ _) eT)
      have fS : hF[ash]? = some (.lst (S.map vN)) := by rw [hFe,set_ne (Nat.ne_of_gt (Nat.lt_trans hsa n56)),set_ne (Nat.ne_of_gt (Nat.lt_trans hsa n5)),set_ne (Nat.ne_of_gt hsa)]; exact get_pre (List.prefix_append _ _) (get_pre (List.prefix_append _ _) eSh)
      rw [← hFe] at H4 hst
      clear hFe
      refine ⟨_,rfl,_,rfl,_,rfl,_,rfl,_,rfl,_,_,e69,rfl,sig_eq (σ := [_,_,_,_,_,_,_,_,_,_,_]) rfl ⟨_,rfl,_,H2.re.choose_spec.1,_,rfl,_,rfl,_,hcell H2.pre,_,md,_,rfl,rfl,_,_,hap,rfl,_,rfl,_,rfl,_,rfl,_,hcell (pre_set H3.pre o1 _),_,md,_,old,_,rfl,_,_,hag,_,hst,
        _,rfl,_,_,f9,rfl,forN_wp (L := rch fs rs b s q) (J70b h fs rs b bd s ash S q W a5 B a6 a7 a9) _ (fun u R σ h'' j => ?_) (fun σ h'' j => ?_) rfl
        ⟨TM,⟨_,rfl⟩,H4,f9,fS,f7,lT,fun t ht => by rw [cT t ht,allR_add,List.count_append],hrt⟩⟩⟩
      · obtain ⟨TM,⟨o10,rfl⟩,HL',g9,gS,g7,lT',cT',hR'⟩ := j
        have hu := hR' u List.mem_cons_self
        have hset := set_lst (h := h'') (a := a7) (xs := TM.map vN) (x := (u : Int)) (k := u) (v := V.int ((TM.getD u 0 : Nat) + Int.ofNat 1)) g7 rfl (by rw [List.length_map,lT']; exact hu) (big hu hN)
        have hmap : (TM.map vN).set u (V.int ((TM.getD u 0 : Nat) + Int.ofNat 1)) = (TM.set u (TM.getD u 0 + 1)).map vN := by rw [List.map_set]; rfl
        rw [hmap] at hset
        refine ⟨stable_of g9,rfl,_,rfl,_,rfl,_,sq_ref g7 rfl (by rw [lT']; exact hu) (big hu hN),_,hset,TM.set u (TM.getD u 0 + 1),⟨_,rfl⟩,HL'.set _,by rw [set_ne (Nat.ne_of_lt (Nat.lt_of_lt_of_le l7 l9))]; exact g9,by rw [set_ne (Nat.ne_of_gt (Nat.lt_trans hsa n57))]; exact gS,set_get g7,by rw [List.length_set]; exact lT',fun t ht => ?_,fun t ht => hR' t (List.mem_cons_of_mem _ ht)⟩
        rw [← cT' t ht,count_set (by rw [lT']; exact hu),List.count_cons]
        by_cases c : t = u
        · subst c; rw [if_pos rfl,if_pos (beq_self_eq_true _)]; exact (Nat.add_right_comm ..)
        · rw [if_neg c,if_neg (by rw [beq_iff_eq]; exact fun z => c z.symm)]; rfl
      · obtain ⟨TM,⟨o10,rfl⟩,HL',g9,gS,g7,lT',cT',hR'⟩ := j
        exact ⟨stable_of g9,W ++ [q],TM,a5,B,a6,a7,⟨_,_,_,rfl⟩,HL',gS,List.prefix_refl _,hsa,g7,lT',fun t ht => cT' t ht,by rw [← hW,List.append_assoc]; rfl,hK'⟩
    · rw [List.filter_cons_of_neg (by rw [c1]; decide)] at hW
      exact ⟨W,TM,a5,B,a6,a7,⟨_,_,_,rfl⟩,HL,eSh,List.prefix_refl _,hsa,eT,lT,cT,hW,hK'⟩
  · obtain ⟨W,TM,a5,B,a6,a7,⟨o8,o9,o10,rfl⟩,HL,eSh,_,hsa,eT,lT,cT,hW,hK⟩ := j
    rw [List.filter_nil,List.append_nil] at hW
    subst hW
    refine ⟨rfl,_,rfl,_,rfl,_,rfl,_,rfl,rfl,HL.pre.trans (List.prefix_append _ _),⟨_,rfl⟩,⟨ash,S,sub_tup (last_get _ _) (by decide) (by decide) rfl,get_pre (List.prefix_append _ _) eSh,hS⟩,⟨.ref a6,sub_tup (last_get _ _) (by decide) (by decide) rfl,fun k hk => ⟨B + k,sub_lst (v := .ref a6) (get_pre (List.prefix_append _ _) HL.by_) (Int.natCast_nonneg k) (Int.ofNat_le.mpr (big_lt hk)) ?_,get_pre (List.prefix_append _ _) (HL.rows k hk)⟩⟩,a7,TM,sub_tup (last_get _ _) (by decide) (by decide) rfl,get_pre (List.prefix_append _ _) eT,lT,cT⟩
    rw [Int.toNat_natCast,List.getElem?_map,List.getElem?_range hk]; rfl
  · have lS := (List.getElem?_eq_some_iff.mp eS).1
    simp only [List.append_assoc,List.length_append,List.length_singleton,List.cons_append,List.nil_append]
    have gt := fun (os : List O) (i : Nat) => app_get h1 os i
    refine ⟨[],List.replicate (fs * rs) 0,_,h1.length + 1,_,_,⟨_,_,_,rfl⟩,⟨pz _,⟨pre_len p1,Nat.lt_succ_self _,Nat.le_refl (h1.length + 8),Nat.add_lt_add_left (show 8 < 10 by decide) _⟩,⟨[],?_,Nat.le_refl _⟩,fun k hk => ?_,?_⟩,get_pre (List.prefix_append _ _) eS,List.prefix_refl _,lS,?_,List.length_replicate,fun t ht => ?_,rfl,fun t ht => List.mem_range.mp ht⟩
    · exact gt _ 0
    · match k,hk with
      | 0,_ => exact gt _ 1
      | 1,_ => exact gt _ 2
      | 2,_ => exact gt _ 3
      | 3,_ => exact gt _ 4
      | 4,_ => exact gt _ 5
      | 5,_ => exact gt _ 6
      | 6,_ => exact gt _ 7
    · exact gt _ 8
    · rw [List.map_replicate]; exact gt _ 10
    · rw [List.getD_eq_getElem?_getD,List.getElem?_replicate,if_pos ht]; rfl
end
theorem ht_wp {P : Par} {F : Call} {i j k l : Nat} {σ : Sig} {h : H} {fs rs s t : Nat} {Q : V → H → Prop} (D : Dim fs rs) (hs : s < 2) (ht : t < fs * rs) (ei : σ[i]? = some (some (vN s))) (ej : σ[j]? = some (some (vN t))) (ek : σ[k]? = some (some (vN fs))) (el : σ[l]? = some (some (vN rs))) (q : Q (vN (rkS fs rs s t)) h) :
    wE P F (.ite (.cmp .Eq (.var i) (.const (.int (.ofNat 0)))) (.bin .FloorDiv (.var j) (.var k)) (.bin .Sub (.bin .Sub (.var l) (.const (.int (.ofNat 1)))) (.bin .FloorDiv (.var j) (.var k)))) σ h Q := by
  have dv : binInt .FloorDiv (t : Int) (fs : Int) = some ((t / fs : Nat) : Int) := div_ok rfl rfl D.pos (Nat.lt_of_le_of_lt D.1.2 (by decide))
  match s,hs with
  | 0,_ => exact ⟨_,ei,fun _ => ⟨_,ej,_,ek,_,dv,q⟩,nofun⟩
  | 1,_ =>
    have e : (rs : Int) - Int.ofNat 1 - ((t / fs : Nat) : Int) = ((rkS fs rs 1 t : Nat) : Int) := by
      exact cast_sub2 (div_lt_ranks ht)
    refine ⟨_,ei,nofun,fun _ => ⟨_,el,_,ej,_,ek,_,dv,?_⟩⟩
    show Q (.int ((rs : Int) - Int.ofNat 1 - ((t / fs : Nat) : Int))) h
    rw [e]; exact q
noncomputable def fwd (fs s t : Nat) : Nat := match s with
  | 0 => t + fs
  | _ => t - fs
theorem fwd_eq {fs s t : Nat} (hs : s < 2) (hb : s = 1 → fs ≤ t) : (t : Int) + (fs : Int) * (Int.ofNat 1 - Int.ofNat 2 * (s : Int)) = ((fwd fs s t : Nat) : Int) := by
  match s,hs with
  | 0,_ => show (t : Int) + (fs : Int) * (1 - 2 * 0) = ((t + fs : Nat) : Int); rw [show (1 : Int) - 2 * 0 = 1 from rfl,Int.mul_one]; rfl
  | 1,_ => have := hb rfl; show (t : Int) + (fs : Int) * (1 - 2 * 1) = ((t - fs : Nat) : Int); rw [show (1 : Int) - 2 * 1 = -1 from rfl,Int.mul_neg,Int.mul_one]; exact cast_sub this
theorem code_eq {b : List Nat} {s k t : Nat} : (((cell b t : Nat) : Int) == (s : Int) * Int.ofNat 8 + Int.ofNat k) = isK b s k t := by
  unfold isK
  rw [Bool.eq_iff_iff,beq_iff_eq,beq_iff']
  rw [Nat.mul_comm]; exact eq_cast (n := s * 8 + k)
theorem code_ne {b : List Nat} {s k t : Nat} : (((cell b t : Nat) : Int) != (s : Int) * Int.ofNat 8 + Int.ofNat k) = !isK b s k t := by
  rw [← code_eq]; rfl
theorem lt_int {x k : Nat} : decide ((x : Int) < Int.ofNat k) = Nat.blt x k := by
  rw [blt_decide,decide_eq_decide]; exact lt_cast
theorem gt_int {x k : Nat} : decide ((x : Int) > Int.ofNat k) = Nat.blt k x := by
  rw [blt_decide,decide_eq_decide]; exact lt_cast
theorem eq_int {x k : Nat} : ((x : Int) == Int.ofNat k) = Nat.beq x k := by
  rw [Bool.eq_iff_iff,beq_iff_eq,beq_iff']; exact Int.ofNat_inj
theorem fwd_lt {fs rs : Nat} {b : List Nat} (Y : Good fs rs b) {s t : Nat} (hs : s < 2) (ht : t < fs * rs) (hp : isK b s 1 t = true) : fwd fs s t < fs * rs ∧ (s = 1 → fs ≤ t) := by
  obtain ⟨h1,h2⟩ := Y.pawn s t hs ht hp
  have h3 : fs ≤ t := Nat.le_of_not_lt fun z => by rw [Nat.div_eq_of_lt z] at h1; exact absurd h1 (by decide)
  have h4 : t < fs * (t / fs + 1) := by have := Nat.lt_mul_div_succ t Y.dim.pos; exact this
  have h5 : fs * (t / fs + 2) ≤ fs * rs := Nat.mul_le_mul_left fs h2
  have e : fs * (t / fs + 2) = fs * (t / fs + 1) + fs := Nat.mul_succ ..
  match s,hs with
  | 0,_ => exact ⟨Nat.lt_of_lt_of_le (Nat.add_lt_add_right h4 fs) (e ▸ h5),nofun⟩
  | 1,_ => exact ⟨sub_lt' ht,fun _ => h3⟩
section
variable (fs rs : Nat) (b : List Nat)
noncomputable def areaL (s : Nat) (S H : Nat → Bool) (t : Nat) : Bool := !(isK b s 1 t && (Nat.blt (rkS fs rs s t) 3 || !Nat.beq (cell b (fwd fs s t)) 0)) && (!isK b s 5 t && (!isK b s 6 t && (!S t && !H t)))
end
inductive J71a (h : H) (fs : Nat) (rs : Nat) (b : List Nat) (bd : V) (s : Nat) (as : Nat) (ah : Nat) (S : List Nat) (T : List Nat) (K : List Nat) (σ : Sig) (h' : H) : Prop
  | mk (l : List Nat) (c0 : ∃ o7 o8,σ = [some (.int fs),some (.int rs),some bd,some (vN s),some (.ref as),some (.ref ah),some (.ref h.length),o7,o8]) (c1 : h' = h ++ [.lst (l.map vN)]) (c2 : l ++ K.filter (areaL fs rs b s S.contains T.contains) = (List.range (fs * rs)).filter (areaL fs rs b s S.contains T.contains)) (c3 : l.length + K.length ≤ 30) (c4 : ∀ t ∈ K,t < fs * rs) : J71a h fs rs b bd s as ah S T K σ h'
section
variable {sa : Nat} {zs : List Int} {n : Nat} {h : H} {fs rs : Nat} {b : List Nat} (Y : Good fs rs b)
include Y
theorem t71 (hn : 71 < n) {bd : V} {x y z : Int} {s as ah : Nat} {S T : List Nat} (hx : x = fs) (hy : y = rs) (hz : z = s) (hs : s < 2) (eb : SqL (P0 sa zs).C h bd b) (eS : h[as]? = some (.lst (S.map vN))) (eT : h[ah]? = some (.lst (T.map vN))) :
    callN (P0 sa zs) fnT n 71 [.int x,.int y,bd,.int z,.ref as,.ref ah] h = some (.ref h.length,h ++ [.lst (((List.range (fs * rs)).filter (areaL fs rs b s S.contains T.contains)).map vN)]) := by
  subst hx hy hz
  have D := Y.dim
  have hN := D.size.2
  have hlen : ∀ {h' : H},h <+: h' → biV (P0 sa zs).C 0 [bd] h' = some (V.int ((fs * rs : Nat) : Int),h') := fun p => by rw [len_ok (obj_pre p eb) (len_le Y),Y.len]
  have key : Meets (P0 sa zs) n 71 [.int fs,.int rs,bd,.int s,.ref as,.ref ah] h fun v h' => v = .ref h.length ∧ h' = h ++ [.lst (((List.range (fs * rs)).filter (areaL fs rs b s S.contains T.contains)).map vN)] := by
    refine call_wp m71 hn ⟨rfl,rfl,rfl,_,rfl,_,_,hlen (List.prefix_append _ _),_,rfl,rangeOk_of ⟨by decide,Nat.le_trans hN (by decide)⟩,
      forN_wp (L := List.range (fs * rs)) (J71a h fs rs b bd s as ah S T) _ (fun t K σ h' j => ?_) (fun σ h' j => ?_) (range_zero rfl)
      ⟨[],⟨_,_,rfl⟩,rfl,rfl,by rw [List.length_range]; rw [List.length_nil,Nat.zero_add]; exact hN,fun t ht => List.mem_range.mp ht⟩⟩
    · obtain ⟨l,⟨o7,o8,rfl⟩,rfl,hl,hk,hK⟩ := j
      have ht := hK t List.mem_cons_self
      have hK' : ∀ t ∈ K,t < fs * rs := fun d hd => hK d (List.mem_cons_of_mem _ hd)
      rw [List.length_cons] at hk
      have pr := List.prefix_append h [O.lst (l.map vN)]
      have cel := fun (u : Nat) (hu : u < fs * rs) (x : Int) (hx : x = u) => (sq_at (obj_pre pr eb) hx (by rw [Y.len]; exact hu) (big hu hN) : getSub (P0 sa zs).C (h ++ [O.lst (l.map vN)]) bd (.int x) = some (vN (cell b u)))
      refine ⟨rfl,rfl,ht_wp D hs ht rfl rfl rfl rfl ⟨rfl,sig_eq (σ := [_,_,_,_,_,_,_,_,_]) rfl (ite_tst (c := isK b s 1 t && (Nat.blt (rkS fs rs s t) 3 || !Nat.beq (cell b (fwd fs s t)) 0)) (tst_and (fun Q c => ⟨_,rfl,_,rfl,_,cel t ht t rfl,_,rfl,_,mulr_ok rfl,c _ (congrArg some code_eq)⟩) fun hp => tst_or (fun Q c => ⟨_,rfl,c _ (congrArg some lt_int)⟩) fun _ Q c =>
          ⟨_,rfl,_,rfl,_,rfl,_,rfl,_,mul_ok rfl,_,mul_ok (small_nat (Nat.lt_of_le_of_lt D.1.2 (by decide))),_,cel (fwd fs s t) (fwd_lt Y hs ht hp).1 _ (fwd_eq hs (fwd_lt Y hs ht hp).2),c _ tst_int⟩) (fun c1 => ?_) (fun c1 => ?_))⟩⟩
      · refine ⟨l,⟨_,_,rfl⟩,rfl,?_,drop1 hk,hK'⟩
        rw [List.filter_cons_of_neg (by unfold areaL; rw [c1]; simp)] at hl; exact hl
      · refine ite_tst (c := !isK b s 5 t && (!isK b s 6 t && (!S.contains t && !T.contains t))) (tst_and (fun Q c => ⟨_,rfl,_,rfl,_,cel t ht t rfl,_,rfl,_,mulr_ok rfl,c _ (congrArg some code_ne)⟩) fun _ => tst_and (fun Q c => ⟨_,rfl,_,rfl,_,cel t ht t rfl,_,rfl,_,mulr_ok rfl,c _ (congrArg some code_ne)⟩) fun _ =>
          tst_and (fun Q c => ⟨_,rfl,_,rfl,_,notin_ok rfl (obj_pre (v := .ref as) pr eS),c _ rfl⟩) fun _ Q c => ⟨_,rfl,_,rfl,_,notin_ok rfl (obj_pre (v := .ref ah) pr eT),c _ rfl⟩) (fun c2 => ?_) (fun c2 => ?_)
        · have happ := app_lst (C := (P0 sa zs).C) (v := vN t) (last_get h (.lst (l.map vN))) (by rw [List.length_map]; exact le_k hk (by decide))
          have hset : (h ++ [O.lst (l.map vN)]).set h.length (.lst (l.map vN ++ [vN t])) = h ++ [O.lst ((l ++ [t]).map vN)] := by rw [last_set,List.map_append]; rfl
          rw [hset] at happ
          refine ⟨_,rfl,_,last_get h _,_,rfl,_,_,happ,rfl,l ++ [t],⟨_,_,rfl⟩,rfl,?_,grow1 hk,hK'⟩
          rw [List.filter_cons_of_pos (by unfold areaL; rw [c1,c2]; rfl)] at hl
          rw [← hl,List.append_assoc]; rfl
        · refine ⟨l,⟨_,_,rfl⟩,rfl,?_,drop1 hk,hK'⟩
          rw [List.filter_cons_of_neg (by unfold areaL; rw [c2]; simp)] at hl; exact hl
    · obtain ⟨l,⟨o7,o8,rfl⟩,rfl,hl,hk,hK⟩ := j
      refine ⟨rfl,_,rfl,rfl,?_⟩
      rw [← hl,List.filter_nil,List.append_nil]
  obtain ⟨v,h',e,rfl,rfl⟩ := key
  exact e
end
section
variable (fs rs : Nat) (b : List Nat)
noncomputable def leapB (hd : Bool) (s t : Nat) : Bool := hd && (Nat.blt 4 rs && (Nat.beq (rkS fs rs s t) 1 && Nat.beq (cell b (fwd fs s (fwd fs s t))) 0))
noncomputable def pushAt (hd : Bool) (s t : Nat) : List Nat := bif isK b s 1 t && Nat.beq (cell b (fwd fs s t)) 0 then fwd fs s t :: (bif leapB fs rs b hd s t then [fwd fs s (fwd fs s t)] else []) else []
noncomputable def pushL (hd : Bool) (s : Nat) : List Nat := (List.range (fs * rs)).flatMap (pushAt fs rs b hd s)
noncomputable def hitL (s : Nat) (L : List Nat) : List Nat := (List.range (fs * rs)).filter fun t => (L.flatMap fun q => hopsL fs rs q (pawnL s)).contains t && (!Nat.beq (cell b t) 0 && (!Nat.beq (cell b t / 8) s && Nat.blt 1 (cell b t % 8)))
end
theorem fwd2_eq {fs s t : Nat} (hs : s < 2) (hb : s = 1 → fs + fs ≤ t) : (t : Int) + Int.ofNat 2 * ((fs : Int) * (Int.ofNat 1 - Int.ofNat 2 * (s : Int))) = ((fwd fs s (fwd fs s t) : Nat) : Int) := by
  match s,hs with
  | 0,_ => show (t : Int) + 2 * ((fs : Int) * (1 - 2 * 0)) = ((t + fs + fs : Nat) : Int); rw [show (1 : Int) - 2 * 0 = 1 from rfl,Int.mul_one,Int.two_mul,← Int.add_assoc]; rfl
  | 1,_ => have := hb rfl; show (t : Int) + 2 * ((fs : Int) * (1 - 2 * 1)) = ((t - fs - fs : Nat) : Int); rw [show (1 : Int) - 2 * 1 = -1 from rfl,Int.mul_neg,Int.mul_one,Int.mul_neg,Int.two_mul]; exact (cast_sub this).trans (congrArg (fun x : Nat => (x : Int)) (Nat.sub_add_eq t fs fs))
theorem fwd2_lt {fs rs s t : Nat} (D : Dim fs rs) (hs : s < 2) (ht : t < fs * rs) (hr : 4 < rs) (hk : rkS fs rs s t = 1) : fwd fs s (fwd fs s t) < fs * rs ∧ (s = 1 → fs + fs ≤ t) := by
  have h4 : t < fs * (t / fs + 1) := Nat.lt_mul_div_succ t D.pos
  have h5 : fs * (t / fs) ≤ t := Nat.mul_div_le t fs
  have hd := div_lt_ranks ht
  match s,hs with
  | 0,_ =>
    have e : t / fs = 1 := hk
    rw [e] at h4
    have : fs * (1 + 1) + fs + fs ≤ fs * rs := Nat.mul_le_mul_left fs (Nat.le_of_lt hr)
    exact ⟨Nat.lt_of_lt_of_le (Nat.add_lt_add_right (Nat.add_lt_add_right h4 fs) fs) this,nofun⟩
  | 1,_ =>
    have e : rs - 1 - t / fs = 1 := hk
    have : fs * 2 ≤ fs * (t / fs) := Nat.mul_le_mul_left fs ((mirror_iff hd (Nat.lt_trans (by decide) hr)).mpr e ▸ Nat.le_trans (by decide) (Nat.sub_le_sub_right (Nat.sub_le_sub_right hr 1) 1))
    exact ⟨sub_lt' (sub_lt' ht),fun _ => Nat.mul_two fs ▸ Nat.le_trans this h5⟩
inductive J72a (h : H) (fs : Nat) (rs : Nat) (b : List Nat) (bd : V) (s : Nat) (hd : Bool) (K : List Nat) (σ : Sig) (h' : H) : Prop
  | mk (l : List Nat) (c0 : ∃ o7 o8,σ = [some (.int fs),some (.int rs),some bd,some (vN s),some (.bool hd),some (.int ((fs : Int) * (Int.ofNat 1 - Int.ofNat 2 * (s : Int)))),some (.ref h.length),o7,o8]) (c1 : h' = h ++ [.lst (l.map vN)]) (c2 : l ++ K.flatMap (pushAt fs rs b hd s) = pushL fs rs b hd s) (c3 : l.length + 2 * K.length ≤ 60) (c4 : ∀ t ∈ K,t < fs * rs) : J72a h fs rs b bd s hd K σ h'
inductive J73a (h : H) (fs : Nat) (rs : Nat) (bd : V) (s : Nat) (al : Nat) (L : List Nat) (K : List Nat) (σ : Sig) (h' : H) : Prop
  | mk (l : List Nat) (c0 : ∃ o6,σ = [some (.int fs),some (.int rs),some bd,some (vN s),some (.ref al),some (.ref h.length),o6]) (c1 : h <+: h') (c2 : h'[h.length]? = some (.lst (l.map vN))) (c3 : l ++ K.flatMap (fun q => hopsL fs rs q (pawnL s)) = L.flatMap (fun q => hopsL fs rs q (pawnL s))) (c4 : l.length + 2 * K.length ≤ 120) (c5 : ∀ t ∈ K,t < fs * rs) : J73a h fs rs bd s al L K σ h'
section
variable {sa : Nat} {zs : List Int} {n : Nat} {h : H} {fs rs : Nat} {b : List Nat} (Y : Good fs rs b)
include Y
theorem t72 (hn : 72 < n) {bd : V} {x y z : Int} {s : Nat} {hd : Bool} (hx : x = fs) (hy : y = rs) (hz : z = s) (hs : s < 2) (eb : SqL (P0 sa zs).C h bd b) :
    callN (P0 sa zs) fnT n 72 [.int x,.int y,bd,.int z,.bool hd] h = some (.ref h.length,h ++ [.lst ((pushL fs rs b hd s).map vN)]) := by
  subst hx hy hz
  have D := Y.dim
  have hN := D.size.2
  have hfs := D.1
  have hlen : ∀ {h' : H},h <+: h' → biV (P0 sa zs).C 0 [bd] h' = some (V.int ((fs * rs : Nat) : Int),h') := fun p => by rw [len_ok (obj_pre p eb) (len_le Y),Y.len]
  have mA : binInt .Mult (fs : Int) (Int.ofNat 1 - Int.ofNat 2 * (s : Int)) = some ((fs : Int) * (Int.ofNat 1 - Int.ofNat 2 * (s : Int))) := mul_ok (small_nat (Nat.lt_of_le_of_lt hfs.2 (by decide)))
  have key : Meets (P0 sa zs) n 72 [.int fs,.int rs,bd,.int s,.bool hd] h fun v h' => v = .ref h.length ∧ h' = h ++ [.lst ((pushL fs rs b hd s).map vN)] := by
    refine call_wp m72 hn ⟨rfl,_,rfl,_,rfl,_,mul_ok rfl,_,mA,rfl,rfl,rfl,_,rfl,_,_,hlen (List.prefix_append _ _),_,rfl,rangeOk_of ⟨by decide,Nat.le_trans hN (by decide)⟩,
      forN_wp (L := List.range (fs * rs)) (J72a h fs rs b bd s hd) _ (fun t K σ h' j => ?_) (fun σ h' j => ?_) (range_zero rfl)
      ⟨[],⟨_,_,rfl⟩,rfl,rfl,by rw [List.length_range,List.length_nil,Nat.zero_add]; exact Nat.mul_le_mul_left 2 hN,fun t ht => List.mem_range.mp ht⟩⟩
    · obtain ⟨l,⟨o7,o8,rfl⟩,rfl,hl,hk,hK⟩ := j
      have ht := hK t List.mem_cons_self
      have hK' : ∀ t ∈ K,t < fs * rs := fun d hd => hK d (List.mem_cons_of_mem _ hd)
      rw [List.length_cons] at hk
      rw [List.flatMap_cons] at hl
      have cel := fun (l : List Nat) (u : Nat) (hu : u < fs * rs) (x : Int) (hx : x = u) => (sq_at (obj_pre (List.prefix_append h [O.lst (l.map vN)]) eb) hx (by rw [Y.len]; exact hu) (big hu hN) : getSub (P0 sa zs).C (h ++ [O.lst (l.map vN)]) bd (.int x) = some (vN (cell b u)))
      have happ : ∀ (l : List Nat) (w : Nat),l.length ≤ 60 → methV (P0 sa zs).C 0 (.ref h.length) (vN w) (h ++ [O.lst (l.map vN)]) = some (.none,h ++ [O.lst ((l ++ [w]).map vN)]) := fun l w hl => by
        rw [app_lst (C := (P0 sa zs).C) (v := vN w) (last_get h (.lst (l.map vN))) (by rw [List.length_map]; exact Nat.lt_of_le_of_lt hl (by decide)),last_set,List.map_append]; rfl
      refine ⟨rfl,rfl,ite_tst (c := isK b s 1 t && Nat.beq (cell b (fwd fs s t)) 0) (tst_and (fun Q c => ⟨_,rfl,_,rfl,_,cel l t ht t rfl,_,rfl,_,mulr_ok rfl,c _ (congrArg some code_eq)⟩) fun hp Q c => ⟨_,rfl,_,rfl,_,rfl,_,cel l (fwd fs s t) (fwd_lt Y hs ht hp).1 _ (fwd_eq hs (fwd_lt Y hs ht hp).2),c _ (congrArg some eq_int)⟩) (fun c1 => ?_) (fun c1 => ?_)⟩
      · have hp := (Bool.and_eq_true_iff.mp c1).1
        have e1 := fwd_eq hs (fwd_lt Y hs ht hp).2
        have hpa : pushAt fs rs b hd s t = fwd fs s t :: (bif leapB fs rs b hd s t then [fwd fs s (fwd fs s t)] else []) := by unfold pushAt; rw [c1]; rfl
        rw [hpa] at hl
        have ha := happ l (fwd fs s t) (Nat.le_trans (Nat.le_add_right ..) hk)
        rw [show vN (fwd fs s t) = V.int ((t : Int) + (fs : Int) * (Int.ofNat 1 - Int.ofNat 2 * (s : Int))) from congrArg V.int e1.symm] at ha
        refine ⟨_,rfl,_,last_get h _,_,rfl,_,rfl,_,_,ha,rfl,ht_wp D hs ht rfl rfl rfl rfl ⟨rfl,sig_eq (σ := [_,_,_,_,_,_,_,_,_]) rfl (ite_tst (c := leapB fs rs b hd s t) (tst_and (fun Q c => ⟨_,rfl,c _ rfl⟩) fun _ => tst_and (fun Q c => ⟨_,rfl,c _ (congrArg some gt_int)⟩) fun z4 => tst_and (fun Q c => ⟨_,rfl,c _ (congrArg some eq_int)⟩) fun z1 Q c =>
          ⟨_,rfl,_,rfl,_,rfl,_,mul_ok rfl,_,cel (l ++ [fwd fs s t]) (fwd fs s (fwd fs s t)) (fwd2_lt D hs ht (Nat.le_of_ble_eq_true z4) (beq_iff'.mp z1)).1 _ (fwd2_eq hs (fwd2_lt D hs ht (Nat.le_of_ble_eq_true z4) (beq_iff'.mp z1)).2),c _ (congrArg some eq_int)⟩) (fun c2 => ?_) (fun c2 => ?_))⟩⟩
        · have z4 := (Bool.and_eq_true_iff.mp (Bool.and_eq_true_iff.mp c2).2).1
          have z1 := (Bool.and_eq_true_iff.mp (Bool.and_eq_true_iff.mp (Bool.and_eq_true_iff.mp c2).2).2).1
          have e2 := fwd2_eq hs (fwd2_lt D hs ht (Nat.le_of_ble_eq_true z4) (beq_iff'.mp z1)).2
          have hb := happ (l ++ [fwd fs s t]) (fwd fs s (fwd fs s t)) (by rw [app1]; exact Nat.le_trans (Nat.add_le_add_left (Nat.le_add_left 1 (2 * K.length + 1)) _) hk)
          rw [show vN (fwd fs s (fwd fs s t)) = V.int ((t : Int) + Int.ofNat 2 * ((fs : Int) * (Int.ofNat 1 - Int.ofNat 2 * (s : Int)))) from congrArg V.int e2.symm] at hb
          refine ⟨_,rfl,_,last_get h _,_,rfl,_,rfl,_,mul_ok rfl,_,_,hb,rfl,l ++ [fwd fs s t] ++ [fwd fs s (fwd fs s t)],⟨_,_,rfl⟩,rfl,?_,grow1 (k := 2 * K.length) (grow1 (k := 2 * K.length + 1) hk),hK'⟩
          rw [c2] at hl
          rw [← hl]; simp only [List.append_assoc]; rfl
        · refine ⟨l ++ [fwd fs s t],⟨_,_,rfl⟩,rfl,?_,grow1 (k := 2 * K.length) (Nat.le_of_succ_le hk),hK'⟩
          rw [c2] at hl
          rw [← hl,List.append_assoc]; rfl
      · refine ⟨l,⟨_,_,rfl⟩,rfl,?_,dropM hk,hK'⟩
        rw [show pushAt fs rs b hd s t = [] by unfold pushAt; rw [c1]; rfl] at hl; exact hl
    · obtain ⟨l,⟨o7,o8,rfl⟩,rfl,hl,hk,hK⟩ := j
      refine ⟨rfl,_,rfl,rfl,?_⟩
      rw [← hl,List.flatMap_nil,List.append_nil]
  obtain ⟨v,h',e,rfl,rfl⟩ := key
  exact e
theorem t73 (hn : 73 < n) {bd : V} {x y z : Int} {s al : Nat} {L : List Nat} (hx : x = fs) (hy : y = rs) (hz : z = s) (hs : s < 2) (eb : SqL (P0 sa zs).C h bd b) (eL : h[al]? = some (.lst (L.map vN))) (hL : ∀ t ∈ L,t < fs * rs) (hLl : L.length ≤ 60) :
    Meets (P0 sa zs) n 73 [.int x,.int y,bd,.int z,.ref al] h fun v h' => h <+: h' ∧ ∃ a,v = .ref a ∧ h'[a]? = some (.lst ((hitL fs rs b s L).map vN)) := by
  subst hx hy hz
  have D := Y.dim
  have hN := D.size.2
  have hlen : ∀ {h' : H},h <+: h' → biV (P0 sa zs).C 0 [bd] h' = some (V.int ((fs * rs : Nat) : Int),h') := fun p => by rw [len_ok (obj_pre p eb) (len_le Y),Y.len]
  have al_lt := (List.getElem?_eq_some_iff.mp eL).1
  refine call_wp m73 hn ⟨rfl,rfl,rfl,_,rfl,_,_,get_pre (List.prefix_append _ _) eL,rfl,
    forN_wp (L := L) (J73a h fs rs bd s al L) _ (fun t K σ h' j => ?_) (fun σ h' j => ?_) rfl
    ⟨[],⟨_,rfl⟩,List.prefix_append _ _,last_get _ _,rfl,by rw [List.length_nil,Nat.zero_add]; exact Nat.le_trans (Nat.mul_le_mul_left 2 hLl) (by decide),hL⟩⟩
  · obtain ⟨l,⟨o6,rfl⟩,q1,q2,hl,hk,hK⟩ := j
    have ht := hK t List.mem_cons_self
    rw [List.length_cons] at hk
    rw [List.flatMap_cons] at hl
    have lh := (List.getElem?_eq_some_iff.mp q2).1
    have hl2 : (hopsL fs rs t (pawnL s)).length ≤ 2 := hops_len ..
    have p1 := List.prefix_append h' [O.tup [V.int (-Int.ofNat 1),V.int (Int.ofNat 1 - Int.ofNat 2 * (s : Int))]]
    have p2 := List.prefix_append (h' ++ [O.tup [V.int (-Int.ofNat 1),V.int (Int.ofNat 1 - Int.ofNat 2 * (s : Int))]]) [O.tup [V.int (Int.ofNat 1),V.int (Int.ofNat 1 - Int.ofNat 2 * (s : Int))]]
    have p3 := List.prefix_append (h' ++ [O.tup [V.int (-Int.ofNat 1),V.int (Int.ofNat 1 - Int.ofNat 2 * (s : Int))]] ++ [O.tup [V.int (Int.ofNat 1),V.int (Int.ofNat 1 - Int.ofNat 2 * (s : Int))]]) [O.lst [V.ref h'.length,V.ref (h' ++ [O.tup [V.int (-Int.ofNat 1),V.int (Int.ofNat 1 - Int.ofNat 2 * (s : Int))]]).length]]
    have p4 := List.prefix_append (h' ++ [O.tup [V.int (-Int.ofNat 1),V.int (Int.ofNat 1 - Int.ofNat 2 * (s : Int))]] ++ [O.tup [V.int (Int.ofNat 1),V.int (Int.ofNat 1 - Int.ofNat 2 * (s : Int))]] ++ [O.lst [V.ref h'.length,V.ref (h' ++ [O.tup [V.int (-Int.ofNat 1),V.int (Int.ofNat 1 - Int.ofNat 2 * (s : Int))]]).length]]) [O.lst ((hopsL fs rs t (pawnL s)).map vN)]
    have pp := ((p1.trans p2).trans p3).trans p4
    refine ⟨stable_of (v := .ref al) (get_pre q1 eL),rfl,_,rfl,_,rfl,_,rfl,_,rfl,_,rfl,_,rfl,_,mul_ok rfl,rfl,_,rfl,_,mul_ok rfl,rfl,rfl,_,_,t67 D (by decide) rfl rfl rfl ht (pair_steps h' s) (show 2 ≤ 10 by decide),_,_,aug_lst (get_pre pp q2) (last_get _ _) (Nat.ne_of_gt (Nat.lt_of_lt_of_le lh ((p1.trans p2).trans p3).length_le)) (Nat.le_trans (Nat.add_le_add (Nat.le_trans (Nat.le_add_right ..) hk) hl2) (by decide)),
      l ++ hopsL fs rs t (pawnL s),⟨_,rfl⟩,pre_set (q1.trans pp) (Nat.le_refl _) _,set_get (get_pre pp q2),by rw [List.append_assoc]; exact hl,growM hk hl2,fun t ht => hK t (List.mem_cons_of_mem _ ht)⟩
  · obtain ⟨l,⟨o6,rfl⟩,q1,q2,hl,hk,hK⟩ := j
    rw [List.flatMap_nil,List.append_nil] at hl
    subst hl
    have dv : ∀ t,binInt .FloorDiv (cell b t : Int) (Int.ofNat 8) = some ((cell b t / 8 : Nat) : Int) := fun t => div_ok rfl rfl (by decide) (by decide)
    have md : ∀ t,binInt .Mod (cell b t : Int) (Int.ofNat 8) = some ((cell b t % 8 : Nat) : Int) := fun t => mod_ok rfl rfl (by decide)
    have nq : ∀ t,(((cell b t / 8 : Nat) : Int) != (s : Int)) = !Nat.beq (cell b t / 8) s := fun t => by
      rw [Bool.eq_iff_iff,bne_iff_ne,Bool.not_eq_true',beq_ff,Ne,Int.ofNat_inj]
    have cel := fun (u : Nat) (hu : u < fs * rs) => (sq_at (obj_pre q1 eb) rfl (by rw [Y.len]; exact hu) (big hu hN) : getSub (P0 sa zs).C h' bd (.int (u : Int)) = some (vN (cell b u)))
    have hcl : (hitL fs rs b s L).length ≤ 30 := by
      unfold hitL; refine Nat.le_trans (List.length_filter_le _ _) ?_; rw [List.length_range]; exact hN
    refine ⟨stable_of (v := .ref al) (get_pre q1 eL),_,rfl,_,_,hlen q1,_,rfl,rangeOk_of ⟨by decide,Nat.le_trans hN (by decide)⟩,(hitL fs rs b s L).map vN,h',?_,by rw [List.length_map]; exact Nat.le_trans hcl (by decide),q1.trans (List.prefix_append _ _),_,rfl,last_get _ _⟩
    show compL _ _ ((rangeList 0 ((fs * rs : Nat) : Int) 1).map V.int) h' = _
    rw [range_zero rfl]
    exact compF (fun t => (L.flatMap fun q => hopsL fs rs q (pawnL s)).contains t && (!Nat.beq (cell b t) 0 && (!Nat.beq (cell b t / 8) s && Nat.blt 1 (cell b t % 8)))) rfl fun t ht => tst_and (fun Q c => ⟨_,rfl,_,rfl,_,in_ok (v := .ref h.length) rfl q2,c _ rfl⟩) fun _ => tst_and (fun Q c => ⟨_,rfl,_,rfl,_,cel t (List.mem_range.mp ht),c _ tst_int⟩) fun _ =>
      tst_and (fun Q c => ⟨_,rfl,_,rfl,_,cel t (List.mem_range.mp ht),_,dv t,_,rfl,c _ (congrArg some (nq t))⟩) fun _ Q c => ⟨_,rfl,_,rfl,_,cel t (List.mem_range.mp ht),_,md t,c _ (congrArg some gt_int)⟩
end
theorem sum_cast (L : List Nat) (f : Nat → Nat) : (L.map fun t => ((f t : Nat) : Int)).sum = (((L.map f).sum : Nat) : Int) := by
  induction L with
  | nil => rfl
  | cons x r ih => rw [List.map_cons,List.map_cons,List.sum_cons,List.sum_cons,ih,Int.natCast_add]
theorem ints_map (L : List Nat) (f : Nat → Nat) : isInts (L.map fun t => vN (f t)) = some (L.map fun t => ((f t : Nat) : Int)) := by
  induction L with
  | nil => rfl
  | cons x r ih => exact (congrArg (Option.map _) ih).trans rfl
theorem sum_ok {C : Nat → Option O} {h : H} {a : Nat} {L : List Nat} {f : Nat → Nat} (e : h[a]? = some (.lst (L.map fun t => vN (f t)))) : biV C 3 [.ref a] h = some (vN (L.map f).sum,h) := by
  refine bL_mk e (bq_mk (ints_map L f) ?_)
  rw [sum_cast]
theorem compM {P : Par} {F : Call} {elt : ME} {ok : H → Bool} {σ : Sig} {h : H} {L : List Nat} (f : Nat → Nat) (hok : ok h = true) (t : ∀ x ∈ L,∀ Q : V → H → Prop,Q (vN (f x)) h → wE P F elt (some (vN x) :: σ) h Q) :
    compL (compG (fun x h => evT P F .nil (some x :: σ) h) (fun x h => ev P F elt (some x :: σ) h)) ok (L.map vN) h = some (L.map fun t => vN (f t),h) := by
  induction L with
  | nil => exact if_pos hok
  | cons x r ih =>
    obtain ⟨v,h1,e1,rfl,rfl⟩ := wE_sound elt (t x List.mem_cons_self (fun v h' => v = vN (f x) ∧ h' = h) ⟨rfl,rfl⟩)
    exact (if_pos hok).trans (bo_mk (bo_mk rfl (bo_mk e1 rfl)) (bo_mk (ih fun y hy => t y (List.mem_cons_of_mem _ hy)) rfl))
noncomputable def TabL (C : Nat → Option O) (tv : V) (T : Nat → Nat × Nat) : Prop := ∀ (h : H) (k : Nat),k < 7 → ∃ c,getSub C h tv (.int (k : Nat)) = some c ∧ getSub C h c (.int (.ofNat 0)) = some (vN (T k).1) ∧ getSub C h c (.int (.ofNat 1)) = some (vN (T k).2)
section
variable {sa : Nat} {zs : List Int} {n : Nat} {h : H}
theorem minorL_ok : TabL (P0 sa zs).C ((P0 sa zs).tabs 4) minorT := fun h k h7 => by
  match k,h7 with
  | 0,_ | 1,_ | 2,_ | 3,_ | 4,_ | 5,_ | 6,_ => exact ⟨_,rfl,rfl,rfl⟩
theorem rookL_ok : TabL (P0 sa zs).C ((P0 sa zs).tabs 5) rookT := fun h k h7 => by
  match k,h7 with
  | 0,_ | 1,_ | 2,_ | 3,_ | 4,_ | 5,_ | 6,_ => exact ⟨_,rfl,rfl,rfl⟩
variable {fs rs : Nat} {b : List Nat} (Y : Good fs rs b)
include Y
theorem t76 (hn : 76 < n) {bd tv : V} {al : Nat} {L : List Nat} {T : Nat → Nat × Nat} (eb : SqL (P0 sa zs).C h bd b) (eL : h[al]? = some (.lst (L.map vN))) (hL : ∀ t ∈ L,t < fs * rs) (hLl : L.length ≤ 60) (hT : TabL (P0 sa zs).C tv T) :
    Meets (P0 sa zs) n 76 [bd,.ref al,tv] h fun v h' => h <+: h' ∧ ∃ a,v = .ref a ∧ h'[a]? = some (.lst [vN (L.map fun t => (T (cell b t % 8)).1).sum,vN (L.map fun t => (T (cell b t % 8)).2).sum]) := by
  have D := Y.dim
  have hN := D.size.2
  have md : ∀ t,binInt .Mod (cell b t : Int) (Int.ofNat 8) = some ((cell b t % 8 : Nat) : Int) := fun t => mod_ok rfl rfl (by decide)
  let half : V → V := fun v => if v = vN 0 then vN (L.map fun t => (T (cell b t % 8)).1).sum else vN (L.map fun t => (T (cell b t % 8)).2).sum
  have p1 := List.prefix_append h [O.lst (L.map fun t => vN (T (cell b t % 8)).1)]
  have inner0 : ∀ {h' : H},h <+: h' → ∀ t ∈ L,∀ Q : V → H → Prop,Q (vN (T (cell b t % 8)).1) h' → wE (P0 sa zs) (callN (P0 sa zs) fnT 76) (((ME.var 4).sub (.bin .Mod ((ME.var 2).sub (.var 0)) (.const (.int (.ofNat 8))))).sub (.var 1)) (some (vN t) :: some (vN 0) :: [some bd,some (.ref al),some tv]) h' Q := fun {h'} p t ht Q q => by
    obtain ⟨c,c1,c2,c3⟩ := hT h' (cell b t % 8) (Y.ok t).1
    exact ⟨_,rfl,_,rfl,_,rfl,_,sq_at (obj_pre p eb) rfl (by rw [Y.len]; exact hL t ht) (big (hL t ht) hN),_,md t,_,c1,_,rfl,_,c2,q⟩
  have inner1 : ∀ {h' : H},h <+: h' → ∀ t ∈ L,∀ Q : V → H → Prop,Q (vN (T (cell b t % 8)).2) h' → wE (P0 sa zs) (callN (P0 sa zs) fnT 76) (((ME.var 4).sub (.bin .Mod ((ME.var 2).sub (.var 0)) (.const (.int (.ofNat 8))))).sub (.var 1)) (some (vN t) :: some (vN 1) :: [some bd,some (.ref al),some tv]) h' Q := fun {h'} p t ht Q q => by
    obtain ⟨c,c1,c2,c3⟩ := hT h' (cell b t % 8) (Y.ok t).1
    exact ⟨_,rfl,_,rfl,_,rfl,_,sq_at (obj_pre p eb) rfl (by rw [Y.len]; exact hL t ht) (big (hL t ht) hN),_,md t,_,c1,_,rfl,_,c3,q⟩
  have hll : ∀ f : Nat → V,(L.map f).length ≤ lenMax := fun f => by rw [List.length_map]; exact Nat.le_trans hLl (by decide)
  obtain ⟨h',e',j'⟩ := comp_wp (P := P0 sa zs) (F := callN (P0 sa zs) fnT 76) (elt := .bi 3 (.cons (.comp (((ME.var 4).sub (.bin .Mod ((ME.var 2).sub (.var 0)) (.const (.int (.ofNat 8))))).sub (.var 1)) (.val (.var 2)) .nil) .nil)) (ifs := .nil) (ok := fun _ => true) (σ := [some bd,some (.ref al),some tv])
    (fun xs h' => h <+: h' ∧ (xs = [vN 0,vN 1] ∨ xs = [vN 1] ∨ xs = [])) (fun v => some (half v)) (fun x xs h' j => by
      obtain ⟨q,j⟩ := j
      refine ⟨rfl,fun _ => ?_,nofun⟩
      rcases j with j | j | j
      · obtain ⟨rfl,rfl⟩ := List.cons.inj j
        exact ⟨_,rfl,_,_,get_pre q eL,rfl,_,_,compM (L := L) (fun t => (T (cell b t % 8)).1) (stable_of (v := .ref al) (get_pre q eL)) (inner0 q),hll _,_,_,sum_ok (last_get _ _),rfl,q.trans (List.prefix_append _ _),.inr (.inl rfl)⟩
      · obtain ⟨rfl,rfl⟩ := List.cons.inj j
        exact ⟨_,rfl,_,_,get_pre q eL,rfl,_,_,compM (L := L) (fun t => (T (cell b t % 8)).2) (stable_of (v := .ref al) (get_pre q eL)) (inner1 q),hll _,_,_,sum_ok (last_get _ _),rfl,q.trans (List.prefix_append _ _),.inr (.inr rfl)⟩
      · cases j) (fun _ _ => rfl) (xs := [vN 0,vN 1]) (h := h) ⟨List.prefix_refl _,.inl rfl⟩
  exact call_wp m76 hn ⟨rfl,rfl,_,_,e',show 2 ≤ lenMax by decide,j'.1.trans (List.prefix_append _ _),_,rfl,last_get _ _⟩
end
theorem compMV {P : Par} {F : Call} {elt : ME} {ok : H → Bool} {σ : Sig} {h : H} {L : List V} (f : V → V) (hok : ok h = true) (t : ∀ x ∈ L,∀ Q : V → H → Prop,Q (f x) h → wE P F elt (some x :: σ) h Q) :
    compL (compG (fun x h => evT P F .nil (some x :: σ) h) (fun x h => ev P F elt (some x :: σ) h)) ok L h = some (L.map f,h) := by
  induction L with
  | nil => exact if_pos hok
  | cons x r ih =>
    obtain ⟨v,h1,e1,rfl,rfl⟩ := wE_sound elt (t x List.mem_cons_self (fun v h' => v = f x ∧ h' = h) ⟨rfl,rfl⟩)
    exact (if_pos hok).trans (bo_mk (bo_mk rfl (bo_mk e1 rfl)) (bo_mk (ih fun y hy => t y (List.mem_cons_of_mem _ hy)) rfl))
theorem compFV {P : Par} {F : Call} {ifs : ME} {ok : H → Bool} {σ : Sig} {h : H} {L : List V} (p : V → Bool) (hok : ok h = true) (t : ∀ x ∈ L,Tst P F ifs (some x :: σ) h (p x)) :
    compL (compG (fun x h => evT P F (.cons ifs .nil) (some x :: σ) h) (fun x h => ev P F (.var 0) (some x :: σ) h)) ok L h = some (L.filter p,h) := by
  induction L with
  | nil => exact if_pos hok
  | cons x r ih =>
    have w : wT P F (.cons ifs .nil) (some x :: σ) h fun c h1 => h1 = h ∧ c = p x :=
      t x List.mem_cons_self _ fun v hv => wTruth_of hv (fun z => ⟨rfl,z.symm⟩) (fun z => ⟨rfl,z.symm⟩)
    obtain ⟨c,h1,e1,rfl,rfl⟩ := wT_sound _ w
    have ih := ih fun y hy => t y (List.mem_cons_of_mem _ hy)
    cases hp : p x with
    | true =>
      rw [hp] at e1
      exact (if_pos hok).trans (bo_mk (bo_mk e1 rfl) (bo_mk ih (by rw [List.filter_cons_of_pos hp]; rfl)))
    | false =>
      rw [hp] at e1
      exact (if_pos hok).trans (bo_mk (bo_mk e1 rfl) (bo_mk ih (by rw [List.filter_cons_of_neg (by rw [hp]; decide)]; rfl)))
theorem cmp2_ok {P : Par} {F : Call} {a b c : ME} {σ : Sig} {h : H} {x y z : Int} {Q : V → H → Prop} (ea : ∀ Q : V → H → Prop,Q (.int x) h → wE P F a σ h Q) (eb : ∀ Q : V → H → Prop,Q (.int y) h → wE P F b σ h Q) (ec : ∀ Q : V → H → Prop,Q (.int z) h → wE P F c σ h Q) (q : Q (.bool (decide (x ≤ y) && decide (y < z))) h) : wE P F (.cmp2 .LtE .Lt a b c) σ h Q := by
  refine ea _ (eb _ ⟨fun r => ec _ ?_,fun r => ?_⟩)
  · have r : decide (x ≤ y) = true := r
    rw [r] at q; exact q
  · have r : decide (x ≤ y) = false := r
    rw [r] at q; exact q
theorem tst_cmp2 {P : Par} {F : Call} {a b c : ME} {σ : Sig} {h : H} {x y z : Int} (ea : ∀ Q : V → H → Prop,Q (.int x) h → wE P F a σ h Q) (eb : ∀ Q : V → H → Prop,Q (.int y) h → wE P F b σ h Q) (ec : ∀ Q : V → H → Prop,Q (.int z) h → wE P F c σ h Q) : Tst P F (.cmp2 .LtE .Lt a b c) σ h (decide (x ≤ y) && decide (y < z)) := fun Q k => cmp2_ok ea eb ec (k _ rfl)
theorem tst_cmp2' {P : Par} {F : Call} {a b c : ME} {σ : Sig} {h : H} {x y z : Int} (ea : ∀ Q : V → H → Prop,Q (.int x) h → wE P F a σ h Q) (eb : ∀ Q : V → H → Prop,Q (.int y) h → wE P F b σ h Q) (ec : ∀ Q : V → H → Prop,Q (.int z) h → wE P F c σ h Q) : Tst P F (.cmp2 .Lt .Lt a b c) σ h (decide (x < y) && decide (y < z)) := fun Q k => by
  refine ea _ (eb _ ⟨fun r => ec _ (k _ ?_),fun r => k _ ?_⟩)
  · have r : decide (x < y) = true := r
    rw [r]; rfl
  · have r : decide (x < y) = false := r
    rw [r]; rfl
theorem wSs_assign {P : Par} {F : Call} {i : Nat} {e : ME} {ss : MSs} {σ : Sig} {h : H} {Q : Fl → Sig → H → Prop} (w : wE P F e σ h (kAsg i σ (kSeq (wSs P F ss) Q))) : wSs P F (.cons (.assign i e) ss) σ h Q := w
theorem ite_and {P : Par} {F : Call} {a e : ME} {A B : MSs} {σ : Sig} {h : H} {c : Bool} {Q : Fl → Sig → H → Prop} (x : Tst P F a σ h c) (hA : c = true → wE P F e σ h fun v h1 => wTruth P h1 v (wSs P F A σ h1 Q) (wSs P F B σ h1 Q)) (hB : c = false → wSs P F B σ h Q) : wS P F (.ite (.and a e) A B) σ h Q :=
  x _ fun v hv => wTruth_of hv hA fun z => wTruth_of (c := false) (by rw [hv,z]) nofun fun _ => hB z
theorem ne_filter {α : Type} (p : α → Bool) : ∀ L : List α,(!(L.filter p).isEmpty) = L.any p
  | [] => rfl
  | x :: r => by
    rw [List.filter_cons,List.any_cons]
    cases hp : p x with
    | true => rw [if_pos rfl]; rfl
    | false => rw [if_neg (by decide),Bool.false_or]; exact ne_filter p r
noncomputable def stepI (fs s t : Nat) (k : Nat) : Int := (t : Int) + (fs : Int) * (Int.ofNat 1 - Int.ofNat 2 * (s : Int)) * (k : Int)
noncomputable def cellI (N : Nat) (b : List Nat) (s : Nat) (x : Int) : Bool := (decide (0 ≤ x) && decide (x < (N : Int))) && isK b s 1 x.toNat
noncomputable def rowB (fs rs : Nat) (b : List Nat) (s t : Nat) : Bool := cellI (fs * rs) b s (stepI fs s t 1) || (cellI (fs * rs) b s (stepI fs s t 2) || cellI (fs * rs) b s (stepI fs s t 3))
noncomputable def roomC (fs rs : Nat) (b : List Nat) (s : Nat) (H : Nat → Bool) (t : Nat) : Bool := (Nat.ble (fs / 4) (t % fs) && Nat.blt (t % fs) (fs - fs / 4)) && ((Nat.beq (rkS fs rs s t) 1 || (Nat.blt 1 (rkS fs rs s t) && Nat.blt (rkS fs rs s t) (rs / 2))) && (!isK b s 1 t && !H t))
noncomputable def roomN (fs rs : Nat) (b : List Nat) (s : Nat) (H : Nat → Bool) (T : List Nat) (K : List Nat) : Nat := (K.filter (roomC fs rs b s H)).length + (K.filter fun t => roomC fs rs b s H t && (Nat.beq (T.getD t 0) 0 && rowB fs rs b s t)).length
theorem le_int {x y : Nat} : decide ((x : Int) ≤ (y : Int)) = Nat.ble x y := by rw [ble_decide,decide_eq_decide]; exact le_cast
theorem lt_int' {x y : Nat} : decide ((x : Int) < (y : Int)) = Nat.blt x y := by rw [blt_decide,decide_eq_decide]; exact lt_cast
inductive J75a (h : H) (fs : Nat) (rs : Nat) (b : List Nat) (bd : V) (fo : V) (s : Nat) (HL : List Nat) (TM : List Nat) (K : List Nat) (σ : Sig) (h' : H) : Prop
  | mk (acc : Nat) (c0 : ∃ o6 o7 o8 o9,σ = [some (.int fs),some (.int rs),some bd,some (vN s),some fo,some (vN acc),o6,o7,o8,o9]) (c1 : h <+: h') (c2 : acc + roomN fs rs b s HL.contains TM K = roomN fs rs b s HL.contains TM (List.range (fs * rs))) (c3 : ∀ t ∈ K,t < fs * rs) : J75a h fs rs b bd fo s HL TM K σ h'
section
variable {sa : Nat} {zs : List Int} {n : Nat} {h : H} {fs rs : Nat} {b : List Nat} (Y : Good fs rs b)
include Y
theorem t75 (hn : 75 < n) {bd fo by_ : V} {x y z : Int} {s ah at_ : Nat} {HL TM : List Nat} (hx : x = fs) (hy : y = rs) (hz : z = s) (hs : s < 2) (eb : SqL (P0 sa zs).C h bd b)
    (f2 : getSub (P0 sa zs).C h fo (.int (.ofNat 2)) = some by_) (f21 : getSub (P0 sa zs).C h by_ (.int (.ofNat 1)) = some (.ref ah)) (eH : h[ah]? = some (.lst (HL.map vN)))
    (f3 : getSub (P0 sa zs).C h fo (.int (.ofNat 3)) = some (.ref at_)) (eT : h[at_]? = some (.lst (TM.map vN))) (lT : TM.length = fs * rs) :
    Meets (P0 sa zs) n 75 [.int x,.int y,bd,.int z,fo] h fun v h' => h <+: h' ∧ v = vN (roomN fs rs b s HL.contains TM (List.range (fs * rs))) := by
  subst hx hy hz
  have D := Y.dim
  have hN := D.size.2
  have hfs := D.1
  have hrs := D.2
  have hlen : ∀ {h' : H},h <+: h' → biV (P0 sa zs).C 0 [bd] h' = some (V.int ((fs * rs : Nat) : Int),h') := fun p => by rw [len_ok (obj_pre p eb) (len_le Y),Y.len]
  have d4 : binInt .FloorDiv (fs : Int) (Int.ofNat 4) = some ((fs / 4 : Nat) : Int) := div_ok rfl rfl (by decide) (by decide)
  have d2 : binInt .FloorDiv (rs : Int) (Int.ofNat 2) = some ((rs / 2 : Nat) : Int) := div_ok rfl rfl (by decide) (by decide)
  have hB : (fs : Int) - ((fs / 4 : Nat) : Int) = ((fs - fs / 4 : Nat) : Int) := cast_sub (Nat.div_le_self fs 4)
  have mA : binInt .Mult (fs : Int) (Int.ofNat 1 - Int.ofNat 2 * (s : Int)) = some ((fs : Int) * (Int.ofNat 1 - Int.ofNat 2 * (s : Int))) := mul_ok (small_nat (Nat.lt_of_le_of_lt hfs.2 (by decide)))
  refine call_wp m75 hn ⟨rfl,rfl,_,rfl,_,_,hlen (List.prefix_refl _),_,rfl,rangeOk_of ⟨by decide,Nat.le_trans hN (by decide)⟩,
    forN_wp (L := List.range (fs * rs)) (J75a h fs rs b bd fo s HL TM) _ (fun t K σ h' j => ?_) (fun σ h' j => ?_) (range_zero rfl)
    ⟨0,⟨_,_,_,_,rfl⟩,List.prefix_refl _,Nat.zero_add _,fun t ht => List.mem_range.mp ht⟩⟩
  · obtain ⟨acc,⟨o6,o7,o8,o9,rfl⟩,q1,q2,q3⟩ := j
    have ht := q3 t List.mem_cons_self
    have q3' : ∀ t ∈ K,t < fs * rs := fun d hd => q3 d (List.mem_cons_of_mem _ hd)
    have md : binInt .Mod (t : Int) (fs : Int) = some ((t % fs : Nat) : Int) := mod_ok rfl rfl D.pos
    have cel := fun {h' : H} (p : h <+: h') (u : Nat) (hu : u < fs * rs) (x : Int) (hx : x = u) => (sq_at (obj_pre p eb) hx (by rw [Y.len]; exact hu) (big hu hN) : getSub (P0 sa zs).C h' bd (.int x) = some (vN (cell b u)))
    have hval : (decide (((fs / 4 : Nat) : Int) ≤ ((t % fs : Nat) : Int)) && decide (((t % fs : Nat) : Int) < (fs : Int) - ((fs / 4 : Nat) : Int))) = (Nat.ble (fs / 4) (t % fs) && Nat.blt (t % fs) (fs - fs / 4)) := by rw [hB,le_int,lt_int']
    have t1 : (decide (Int.ofNat 1 < (rkS fs rs s t : Int)) && decide ((rkS fs rs s t : Int) < ((rs / 2 : Nat) : Int))) = (Nat.blt 1 (rkS fs rs s t) && Nat.blt (rkS fs rs s t) (rs / 2)) := by rw [lt_int']; exact congrArg (· && _) gt_int
    refine ⟨rfl,rfl,ht_wp D hs ht rfl rfl rfl rfl ⟨rfl,wSs_assign ?_⟩⟩
    refine cmp2_ok (x := ((fs / 4 : Nat) : Int)) (y := ((t % fs : Nat) : Int)) (z := (fs : Int) - ((fs / 4 : Nat) : Int)) ?_ ?_ ?_ ?_
    · exact fun Q q => ⟨_,rfl,_,d4,q⟩
    · exact fun Q q => ⟨_,rfl,_,rfl,_,md,q⟩
    · exact fun Q q => ⟨_,rfl,_,rfl,_,d4,q⟩
    refine ⟨rfl,sig_eq (σ := [_,_,_,_,_,_,_,_,_,_]) rfl ?_⟩
    refine ite_tst (c := roomC fs rs b s HL.contains t) (tst_and (fun Q c => ⟨_,rfl,c _ (congrArg some hval)⟩) fun _ => tst_and (tst_or (fun Q c => ⟨_,rfl,c _ (congrArg some eq_int)⟩) fun _ => ?_) fun _ =>
        tst_and (fun Q c => ⟨_,rfl,_,rfl,_,cel q1 t ht t rfl,_,rfl,_,mulr_ok rfl,c _ (congrArg some code_ne)⟩) fun _ Q c => ⟨_,rfl,_,rfl,_,sub_pre q1 f2,_,sub_pre q1 f21,_,notin_ok (v := .ref ah) rfl (get_pre q1 eH),c _ rfl⟩) (fun c1 => ?_) (fun c1 => ?_)
    · rw [← t1]
      refine tst_cmp2' (x := Int.ofNat 1) (y := (rkS fs rs s t : Int)) (z := ((rs / 2 : Nat) : Int)) ?_ ?_ ?_
      · exact fun Q q => q
      · exact fun Q q => ⟨_,rfl,q⟩
      · exact fun Q q => ⟨_,rfl,_,d2,q⟩
    · refine ⟨_,rfl,rfl,_,_,compMV (L := [vN 1,vN 2,vN 3]) (fun v => match v with | .int k => .int ((t : Int) + (fs : Int) * (Int.ofNat 1 - Int.ofNat 2 * (s : Int)) * k) | v => v) rfl (fun v hv Q q => ?_),show 3 ≤ lenMax by decide,rfl,sig_eq (σ := [_,_,_,_,_,_,_,_,_,_]) rfl ?_⟩
      · simp only [List.mem_cons,List.not_mem_nil,or_false] at hv
        rcases hv with rfl | rfl | rfl <;> exact ⟨_,rfl,_,rfl,_,rfl,_,mul_ok rfl,_,mA,_,rfl,_,mulr_ok rfl,q⟩
      · have q1' : h <+: h' ++ [O.lst [V.int (stepI fs s t 1),V.int (stepI fs s t 2),V.int (stepI fs s t 3)]] := q1.trans (List.prefix_append _ _)
        have hr := last_get h' (O.lst [V.int (stepI fs s t 1),V.int (stepI fs s t 2),V.int (stepI fs s t 3)])
        have hR : roomN fs rs b s HL.contains TM (t :: K) = 1 + (bif Nat.beq (TM.getD t 0) 0 && rowB fs rs b s t then 1 else 0) + roomN fs rs b s HL.contains TM K := by
          unfold roomN
          rw [List.filter_cons_of_pos c1,List.length_cons,List.filter_cons,c1,Bool.true_and]
          cases Nat.beq (TM.getD t 0) 0 && rowB fs rs b s t with
          | true => rw [if_pos rfl,List.length_cons,cond_true,Nat.add_add_add_comm,Nat.add_comm]
          | false => rw [if_neg (by decide),cond_false]; exact (Nat.add_right_comm ..).trans (Nat.add_comm ..)
        rw [hR] at q2
        have e1 : vN (acc + 1) = V.int ((acc : Int) + Int.ofNat 1) := rfl
        refine ite_and (c := Nat.beq (TM.getD t 0) 0) (fun Q c => ⟨_,rfl,_,sub_pre q1' f3,_,rfl,_,sq_ref (get_pre q1' eT) rfl (by rw [lT]; exact ht) (big ht hN),c _ (congrArg some eq_int)⟩) (fun z => ?_) (fun z => ?_)
        · have fin : ∀ v : V,v = V.int (stepI fs s t 1) ∨ v = V.int (stepI fs s t 2) ∨ v = V.int (stepI fs s t 3) → ∃ i,v = .int i := fun v hv => by rcases hv with rfl | rfl | rfl <;> exact ⟨_,rfl⟩
          refine ⟨_,rfl,_,_,hr,rfl,_,_,compFV (fun v => match v with | .int i => cellI (fs * rs) b s i | _ => false) (stable_of (v := .ref h'.length) hr) (fun v hv => ?_),?_,?_⟩
          · simp only [List.mem_cons,List.not_mem_nil,or_false] at hv
            obtain ⟨i,rfl⟩ := fin v hv
            refine tst_and (tst_cmp2 (x := Int.ofNat 0) (y := i) (z := ((fs * rs : Nat) : Int)) ?_ ?_ ?_) fun z2 Q c => ?_
            · exact fun Q q => q
            · exact fun Q q => ⟨_,rfl,q⟩
            · exact fun Q q => ⟨_,rfl,_,_,hlen q1',q⟩
            have hi := Bool.and_eq_true_iff.mp z2
            have h0 := of_decide_eq_true hi.1
            have h1 := of_decide_eq_true hi.2
            exact ⟨_,rfl,_,rfl,_,cel q1' i.toNat ((Int.toNat_lt h0).mpr h1) i (Int.toNat_of_nonneg h0).symm,_,rfl,_,mulr_ok rfl,c _ (congrArg some code_eq)⟩
          · exact Nat.le_trans (List.length_filter_le _ _) (show 3 ≤ lenMax by decide)
          · have hb : (!([V.int (stepI fs s t 1),V.int (stepI fs s t 2),V.int (stepI fs s t 3)].filter (fun v => match v with | .int i => cellI (fs * rs) b s i | _ => false)).isEmpty) = rowB fs rs b s t := by
              rw [ne_filter]
              exact congrArg (_ || ·) (congrArg (_ || ·) (Bool.or_false _))
            rw [z,Bool.true_and] at q2
            refine ⟨rowB fs rs b s t,?_,fun z3 => ?_,fun z3 => ?_⟩
            · exact bL_mk (last_get _ _) ((if_pos (Nat.le_trans (List.length_filter_le _ _) (show 3 ≤ lenMax by decide))).trans (by rw [hb]))
            · rw [z3,cond_true] at q2
              exact ⟨_,rfl,acc + 1 + 1,⟨_,_,_,_,rfl⟩,q1'.trans (List.prefix_append _ _),by rw [Nat.add_assoc acc 1 1,Nat.add_assoc]; exact q2,q3'⟩
            · rw [z3,cond_false] at q2
              exact ⟨acc + 1,⟨_,_,_,_,rfl⟩,q1'.trans (List.prefix_append _ _),(Nat.add_assoc acc 1 _).trans q2,q3'⟩
        · rw [z,Bool.false_and,cond_false] at q2
          exact ⟨acc + 1,⟨_,_,_,_,rfl⟩,q1',(Nat.add_assoc acc 1 _).trans q2,q3'⟩
    · refine ⟨acc,⟨_,_,_,_,rfl⟩,q1,?_,q3'⟩
      unfold roomN at q2 ⊢
      rw [List.filter_cons_of_neg (by rw [c1]; decide),List.filter_cons_of_neg (by rw [c1]; simp)] at q2
      exact q2
  · obtain ⟨acc,⟨o6,o7,o8,o9,rfl⟩,q1,q2,q3⟩ := j
    exact ⟨rfl,_,rfl,q1,by rw [← q2]; rfl⟩
end
theorem count_cast (b : List Nat) (c : Nat) : (b.map fun (t : Nat) => (t : Int)).count (c : Int) = b.count c := by
  induction b with
  | nil => rfl
  | cons x r ih =>
    rw [List.map_cons,List.count_cons,List.count_cons,ih]
    have : ((x : Int) == (c : Int)) = (x == c) := by rw [Bool.eq_iff_iff,beq_iff_eq,beq_iff_eq]; exact Int.ofNat_inj
    rw [this]
theorem count_ok {C : Nat → Option O} {h : H} {v : V} {b : List Nat} {x : Int} {c : Nat} (e : SqL C h v b) (hx : x = c) : methV C 2 v (.int x) h = some (vN (b.count c),h) := by
  subst hx
  refine bL_mk e (bq_mk (ints_sq b) ?_)
  rw [count_cast]
theorem filter_count : ∀ (b : List Nat) (c : Nat),((List.range b.length).filter fun t => Nat.beq (b.getD t 0) c).length = b.count c
  | [],_ => rfl
  | x :: r,c => by
    rw [List.length_cons,List.range_succ_eq_map,List.filter_cons,List.count_cons,List.filter_map,← filter_count r c]
    have e : ((fun t => Nat.beq ((x :: r).getD t 0) c) ∘ Nat.succ) = fun t => Nat.beq (r.getD t 0) c := by funext t; rfl
    rw [e,show Nat.beq ((x :: r).getD 0 0) c = (x == c) by rw [Bool.eq_iff_iff,beq_iff',beq_iff_eq]; rfl]
    cases x == c with
    | true => rw [if_pos rfl,if_pos rfl,List.length_cons,List.length_map]
    | false => rw [if_neg (by decide),if_neg (by decide),List.length_map]; rfl
theorem one_index {fs rs : Nat} {b : List Nat} (hl : b.length = fs * rs) {s k q : Nat} (e : (List.range (fs * rs)).filter (isK b s k) = [q]) : b.idxOf (8 * s + k) = q ∧ 8 * s + k ∈ b ∧ q < fs * rs := by
  have hm : q ∈ (List.range (fs * rs)).filter (isK b s k) := by rw [e]; exact List.mem_singleton.mpr rfl
  obtain ⟨h1,h2⟩ := List.mem_filter.mp hm
  have hq := List.mem_range.mp h1
  have hq' : q < b.length := by rw [hl]; exact hq
  have hc : cell b q = 8 * s + k := beq_iff'.mp h2
  have hmem : 8 * s + k ∈ b := by
    rw [← hc,cell,List.getD_eq_getElem?_getD,List.getElem?_eq_getElem hq']
    exact List.getElem_mem hq'
  refine ⟨?_,hmem,hq⟩
  have hi := List.idxOf_lt_length_iff.mpr hmem
  have h3 : b.idxOf (8 * s + k) ∈ (List.range (fs * rs)).filter (isK b s k) := by
    refine List.mem_filter.mpr ⟨List.mem_range.mpr (by rw [← hl]; exact hi),?_⟩
    refine beq_iff'.mpr ?_
    rw [cell,List.getD_eq_getElem?_getD,List.getElem?_eq_getElem hi,Option.getD_some,List.getElem_idxOf]
  rw [e] at h3
  exact List.mem_singleton.mp h3
section
variable (fs rs : Nat) (b : List Nat)
noncomputable def roomL (s : Nat) (S H : Nat → Bool) (HE : List Nat) : List Nat := ((List.range (fs * rs)).filter (areaL fs rs b s S H)).filter fun t => !HE.contains t && !isK b s 1 t
noncomputable def jmpL (q : Nat) (B2 R : List Nat) : List Nat := (hopsL fs rs q jumpsL).filter fun t => B2.contains t && R.contains t
noncomputable def sldL (q : Nat) (B : Nat → List Nat) (R TM : List Nat) (K : List Nat) : List Nat := K.flatMap fun d => (cut (fun t => !([0] : List Nat).contains (cell b t)) (rayL fs rs d q)).filter fun t => (B (bif Nat.blt d 4 then 4 else 3)).contains t && (R.contains t && Nat.blt 1 (TM.getD t 0))
end
inductive J74a (h : H) (fs : Nat) (rs : Nat) (b : List Nat) (bd : V) (ow : V) (fo : V) (s : Nat) (al : Nat) (S : List Nat) (HL : List Nat) (HE : List Nat) (TM : List Nat) (B : Nat → List Nat) (q : Nat) (K : List Nat) (σ : Sig) (h' : H) : Prop
  | mk (l : List Nat) (a9 a10 a11 : Nat) (c0 : ∃ o8 o12,σ = [some (.int fs),some (.int rs),some bd,some (vN s),some ow,some fo,some (.ref al),some (vN q),o8,some (.ref a9),some (.ref a10),some (.ref a11),o12]) (c1 : h <+: h') (c2 : h.length ≤ a11 ∧ a9 ≠ a11 ∧ a10 ≠ a11) (c3 : h'[a9]? = some (.lst ((roomL fs rs b s S.contains HL.contains HE).map vN))) (c4 : h'[a10]? = some (.lst ((jmpL fs rs q (B 2) (roomL fs rs b s S.contains HL.contains HE)).map vN))) (c5 : h'[a11]? = some (.lst (l.map vN))) (c6 : l ++ sldL fs rs b q B (roomL fs rs b s S.contains HL.contains HE) TM K = sldL fs rs b q B (roomL fs rs b s S.contains HL.contains HE) TM (List.range 8)) (c7 : l.length + 6 * K.length ≤ 48) (c8 : ∀ d ∈ K,d < 8) : J74a h fs rs b bd ow fo s al S HL HE TM B q K σ h'
section
variable {sa : Nat} {zs : List Int} {n : Nat} {h : H} {fs rs : Nat} {b : List Nat} (Y : Good fs rs b)
include Y
noncomputable def ln74 (fs rs : Nat) (b : List Nat) (d q : Nat) : List Nat := cut (fun t => !([0] : List Nat).contains (cell b t)) (rayL fs rs d q)
noncomputable def ch74 (BB RM TM : List Nat) (t : Nat) : Bool := BB.contains t && (RM.contains t && Nat.blt 1 (TM.getD t 0))
inductive J74b (h : H) (fs rs : Nat) (b : List Nat) (bd ow fo : V) (s al q d : Nat) (TM BB RM JL SK S8 : List Nat) (k : Nat) (h' : H) (a9 a10 a11 : Nat) (R : List Nat) (σ : Sig) (h'' : H) : Prop
  | mk (l : List Nat) (c0 : ∃ o8,σ = [some (.int fs),some (.int rs),some bd,some (vN s),some ow,some fo,some (.ref al),some (vN q),o8,some (.ref a9),some (.ref a10),some (.ref a11),some (vN d)]) (c1 : h <+: h'') (c2 : h''[a9]? = some (.lst (RM.map vN))) (c3 : h''[a10]? = some (.lst (JL.map vN))) (c4 : h''[a11]? = some (.lst (l.map vN))) (c5 : h''[(h' ++ [O.lst (([0] : List Nat).map vN)]).length]? = some (.lst ((ln74 fs rs b d q).map vN))) (c6 : l ++ (R.filter (ch74 BB RM TM) ++ SK) = S8) (c7 : l.length + R.length + 6 * k ≤ 48) (c8 : ∀ t ∈ R,t < fs * rs) : J74b h fs rs b bd ow fo s al q d TM BB RM JL SK S8 k h' a9 a10 a11 R σ h''
theorem t74 (hn : 74 < n) {bd ow fo bo bf : V} {x y z : Int} {s as ah al at_ : Nat} {S HL HE TM : List Nat} {B : Nat → List Nat} (hx : x = fs) (hy : y = rs) (hz : z = s) (hs : s < 2) (eb : SqL (P0 sa zs).C h bd b)
    (o0 : getSub (P0 sa zs).C h ow (.int (.ofNat 0)) = some (.ref as)) (eS : h[as]? = some (.lst (S.map vN)))
    (f2 : getSub (P0 sa zs).C h fo (.int (.ofNat 2)) = some bf) (f21 : getSub (P0 sa zs).C h bf (.int (.ofNat 1)) = some (.ref ah)) (eH : h[ah]? = some (.lst (HL.map vN)))
    (o2 : getSub (P0 sa zs).C h ow (.int (.ofNat 2)) = some bo) (ob : ∀ k,k < 7 → ∃ a,getSub (P0 sa zs).C h bo (.int (k : Nat)) = some (.ref a) ∧ h[a]? = some (.lst ((B k).map vN)))
    (o3 : getSub (P0 sa zs).C h ow (.int (.ofNat 3)) = some (.ref at_)) (eT : h[at_]? = some (.lst (TM.map vN))) (lT : TM.length = fs * rs) (eE : h[al]? = some (.lst (HE.map vN))) :
    Meets (P0 sa zs) n 74 [.int x,.int y,bd,.int z,ow,fo,.ref al] h fun v h' => h <+: h' ∧ ∃ a1 a2,unpackV (P0 sa zs).C h' v 2 = some [.ref a1,.ref a2] ∧
      h'[a1]? = some (.lst ((match qnB fs rs b s with | some q => jmpL fs rs q (B 2) (roomL fs rs b s S.contains HL.contains HE) | none => []).map vN)) ∧
      h'[a2]? = some (.lst ((match qnB fs rs b s with | some q => sldL fs rs b q B (roomL fs rs b s S.contains HL.contains HE) TM (List.range 8) | none => []).map vN)) := by
  subst hx hy hz
  have D := Y.dim
  have hN := D.size.2
  have hc : (Int.ofNat 1 - (s : Int)) * Int.ofNat 8 + Int.ofNat 5 = ((8 * (1 - s) + 5 : Nat) : Int) := by rw [one_sub rfl hs,Nat.mul_comm]; rfl
  have hcnt : b.count (8 * (1 - s) + 5) = ((List.range (fs * rs)).filter (isK b (1 - s) 5)).length := by rw [← filter_count,Y.len]; rfl
  have ne1 : ∀ k : Nat,((k : Int) != Int.ofNat 1) = !Nat.beq k 1 := fun k => congrArg not eq_int
  by_cases hq : ∃ q,(List.range (fs * rs)).filter (isK b (1 - s) 5) = [q]
  · obtain ⟨q,hq⟩ := hq
    have hqn : qnB fs rs b s = some q := (congrArg oneL hq).trans rfl
    rw [hqn]
    obtain ⟨hi,hmem,hql⟩ := one_index Y.len hq
    have hidx := index_ok (C := (P0 sa zs).C) (h := h) eb hc hmem (mem_lt Y) (len_le Y)
    rw [hi] at hidx
    have hroom : ∀ L : List Nat,L.length ≤ 30 → ∀ p : Nat → Bool,((L.filter p).map vN).length ≤ lenMax := fun L hl p => by
      rw [List.length_map]; exact Nat.le_trans (List.length_filter_le _ _) (Nat.le_trans hl (by decide))
    have hal : ((List.range (fs * rs)).filter (areaL fs rs b s S.contains HL.contains)).length ≤ 30 := by
      refine Nat.le_trans (List.length_filter_le _ _) ?_; rw [List.length_range]; exact hN
    have e71 := t71 (sa := sa) (zs := zs) (n := 74) (h := h) Y (by decide) (x := fs) (y := rs) (z := s) rfl rfl rfl hs eb eS eH
    have p1 := List.prefix_append h [O.lst (((List.range (fs * rs)).filter (areaL fs rs b s S.contains HL.contains)).map vN)]
    have p2 := List.prefix_append (h ++ [O.lst (((List.range (fs * rs)).filter (areaL fs rs b s S.contains HL.contains)).map vN)]) [O.lst ((roomL fs rs b s S.contains HL.contains HE).map vN)]
    have r1 := last_get (h ++ [O.lst (((List.range (fs * rs)).filter (areaL fs rs b s S.contains HL.contains)).map vN)]) (O.lst ((roomL fs rs b s S.contains HL.contains HE).map vN))
    have e67 := t67 (sa := sa) (zs := zs) (n := 74) (h := h ++ [O.lst (((List.range (fs * rs)).filter (areaL fs rs b s S.contains HL.contains)).map vN)] ++ [O.lst ((roomL fs rs b s S.contains HL.contains HE).map vN)]) D (by decide) (x := fs) (z := rs) (y := q) rfl rfl rfl hql (jumps_at _) (by decide)
    have p3 := List.prefix_append (h ++ [O.lst (((List.range (fs * rs)).filter (areaL fs rs b s S.contains HL.contains)).map vN)] ++ [O.lst ((roomL fs rs b s S.contains HL.contains HE).map vN)]) [O.lst ((hopsL fs rs q jumpsL).map vN)]
    obtain ⟨a2,b2,b2'⟩ := ob 2 (by decide)
    have pp := (p1.trans p2).trans p3
    have cel := fun {h' : H} (p : h <+: h') (u : Nat) (hu : u < fs * rs) => (sq_at (obj_pre p eb) rfl (by rw [Y.len]; exact hu) (big hu hN) : getSub (P0 sa zs).C h' bd (.int (u : Int)) = some (vN (cell b u)))
    have hj : (hopsL fs rs q jumpsL).length ≤ 30 := Nat.le_trans (hops_len ..) (by decide)
    have p4 := List.prefix_append (h ++ [O.lst (((List.range (fs * rs)).filter (areaL fs rs b s S.contains HL.contains)).map vN)] ++ [O.lst ((roomL fs rs b s S.contains HL.contains HE).map vN)] ++ [O.lst ((hopsL fs rs q jumpsL).map vN)]) [O.lst ((jmpL fs rs q (B 2) (roomL fs rs b s S.contains HL.contains HE)).map vN)]
    have r4 := last_get (h ++ [O.lst (((List.range (fs * rs)).filter (areaL fs rs b s S.contains HL.contains)).map vN)] ++ [O.lst ((roomL fs rs b s S.contains HL.contains HE).map vN)] ++ [O.lst ((hopsL fs rs q jumpsL).map vN)]) (O.lst ((jmpL fs rs q (B 2) (roomL fs rs b s S.contains HL.contains HE)).map vN))
    have p5 := List.prefix_append (h ++ [O.lst (((List.range (fs * rs)).filter (areaL fs rs b s S.contains HL.contains)).map vN)] ++ [O.lst ((roomL fs rs b s S.contains HL.contains HE).map vN)] ++ [O.lst ((hopsL fs rs q jumpsL).map vN)] ++ [O.lst ((jmpL fs rs q (B 2) (roomL fs rs b s S.contains HL.contains HE)).map vN)]) [O.lst []]
    refine call_wp m74 hn ⟨rfl,_,rfl,_,eb,_,rfl,_,mulr_ok rfl,_,_,count_ok eb hc,fun c => ?_,fun _ => ⟨_,rfl,_,eb,_,rfl,_,mulr_ok rfl,_,_,hidx,rfl,
      sig_eq (σ := [_,_,_,_,_,_,_,_,_,_,_,_,_]) rfl ⟨_,rfl,_,rfl,_,rfl,_,rfl,_,rfl,_,o0,_,rfl,_,f2,_,f21,_,_,e71,_,_,last_get h _,rfl,
      _,_,compF (fun t => !HE.contains t && !isK b s 1 t) (stable_of (v := .ref h.length) (last_get h _)) (fun t ht => tst_and (fun Q c => ⟨_,rfl,_,rfl,_,notin_ok (v := .ref al) rfl (get_pre p1 eE),c _ rfl⟩) fun _ Q c => ⟨_,rfl,_,rfl,_,cel p1 t (List.mem_range.mp (List.mem_filter.mp ht).1),_,rfl,_,mulr_ok rfl,c _ (congrArg some code_ne)⟩),hroom _ hal _,rfl,
      sig_eq (σ := [_,_,_,_,_,_,_,_,_,_,_,_,_]) rfl ⟨_,rfl,_,rfl,_,rfl,_,_,e67,_,_,last_get _ _,rfl,
      _,_,compF (fun t => (B 2).contains t && (roomL fs rs b s S.contains HL.contains HE).contains t) (stable_of (v := .ref _) (last_get _ _)) (fun t ht => tst_and (fun Q c => ⟨_,rfl,_,rfl,_,sub_pre pp o2,_,sub_pre pp b2,_,in_ok (v := .ref a2) rfl (get_pre pp b2'),c _ rfl⟩) fun _ Q c => ⟨_,rfl,_,rfl,_,in_ok (v := .ref _) rfl (get_pre p3 r1),c _ rfl⟩),hroom _ hj _,rfl,rfl,rfl,
      sig_eq (σ := [_,_,_,_,_,_,_,_,_,_,_,_,_]) rfl ⟨_,rfl,rfl,?_⟩⟩⟩⟩⟩
    · rw [hcnt,hq] at c; exact ff c
    · obtain ⟨aJ,eaJ⟩ : ∃ aJ,aJ = (h ++ [O.lst (((List.range (fs * rs)).filter (areaL fs rs b s S.contains HL.contains)).map vN)] ++ [O.lst ((roomL fs rs b s S.contains HL.contains HE).map vN)] ++ [O.lst ((hopsL fs rs q jumpsL).map vN)]).length := ⟨_,rfl⟩
      refine forN_wp (L := List.range 8) (J74a h fs rs b bd ow fo s al S HL HE TM B q) _ (fun d K σ h' j => ?_) (fun σ h' j => ?_) rfl
        ⟨[],_,_,_,⟨_,_,rfl⟩,(pp.trans p4).trans p5,⟨?_,?_,?_⟩,get_pre ((p3.trans p4).trans p5) r1,get_pre p5 r4,last_get _ _,rfl,by decide,fun d hd => List.mem_range.mp hd⟩
      · obtain ⟨l,a9,a10,a11,⟨o8,o12,rfl⟩,q1,⟨n1,n2,n3⟩,q2,q3,q4,q5,q6,q7⟩ := j
        have hd := q7 d List.mem_cons_self
        rw [List.length_cons] at q6
        have l11 := (List.getElem?_eq_some_iff.mp q4).1
        have hrow : sldL fs rs b q B (roomL fs rs b s S.contains HL.contains HE) TM (d :: K) = (cut (fun t => !([0] : List Nat).contains (cell b t)) (rayL fs rs d q)).filter (fun t => (B (bif Nat.blt d 4 then 4 else 3)).contains t && ((roomL fs rs b s S.contains HL.contains HE).contains t && Nat.blt 1 (TM.getD t 0))) ++ sldL fs rs b q B (roomL fs rs b s S.contains HL.contains HE) TM K := List.flatMap_cons ..
        rw [hrow] at q5
        obtain ⟨w,w1,w2⟩ := way_ok (sa := sa) (zs := zs) h' hd
        have s1 := List.prefix_append h' [O.lst (([0] : List Nat).map vN)]
        have e66 := t66 (sa := sa) (zs := zs) (n := 74) D (by decide) (x := fs) (z := rs) (y := q) rfl rfl rfl hql hd (obj_pre (q1.trans s1) eb) Y.len w2 (last_get h' (O.lst (([0] : List Nat).map vN)))
        have s2 := List.prefix_append (h' ++ [O.lst (([0] : List Nat).map vN)]) [O.lst ((cut (fun t => !([0] : List Nat).contains (cell b t)) (rayL fs rs d q)).map vN)]
        have ss := s1.trans s2
        have rr := last_get (h' ++ [O.lst (([0] : List Nat).map vN)]) (O.lst ((cut (fun t => !([0] : List Nat).contains (cell b t)) (rayL fs rs d q)).map vN))
        have hcl : (cut (fun t => !([0] : List Nat).contains (cell b t)) (rayL fs rs d q)).length ≤ 6 := Nat.le_trans (cut_len _ _) (walk_len ..)
        obtain ⟨aB,ob1,ob2⟩ := ob (bif Nat.blt d 4 then 4 else 3) (by cases Nat.blt d 4 <;> decide)
        have hk : (((bif Nat.blt d 4 then 4 else 3 : Nat)) : Int) = (bif decide ((d : Int) < Int.ofNat 4) then Int.ofNat 4 else Int.ofNat 3) := by
          rw [lt_int]; cases Nat.blt d 4 <;> rfl
        rw [hk] at ob1
        have nr : a11 ≠ (h' ++ [O.lst (([0] : List Nat).map vN)]).length := Nat.ne_of_lt (lt_app' l11)
        refine ⟨rfl,rfl,_,rfl,_,rfl,_,rfl,_,rfl,_,rfl,_,w1,rfl,_,_,e66,_,_,rr,rfl,
          forN_wp (L := ln74 fs rs b d q) (J74b h fs rs b bd ow fo s al q d TM (B (bif Nat.blt d 4 then 4 else 3)) (roomL fs rs b s S.contains HL.contains HE) (jmpL fs rs q (B 2) (roomL fs rs b s S.contains HL.contains HE)) (sldL fs rs b q B (roomL fs rs b s S.contains HL.contains HE) TM K) (sldL fs rs b q B (roomL fs rs b s S.contains HL.contains HE) TM (List.range 8)) K.length h' a9 a10 a11) _ (fun t R σ h'' j => ?_) (fun σ h'' j => ?_) rfl
          ⟨l,⟨_,rfl⟩,q1.trans ss,get_pre ss q2,get_pre ss q3,get_pre ss q4,rr,q5,Nat.le_trans (Nat.add_le_add_right (Nat.add_le_add_left hcl _) _) (by rw [Nat.add_right_comm]; exact q6),fun t ht => ray_lt D hql hd (cut_sub ht)⟩⟩
        · obtain ⟨l,⟨o8,rfl⟩,v1,v2,v3,v4,v5,v6,v7,v8⟩ := j
          have ht := v8 t List.mem_cons_self
          have v8' : ∀ t ∈ R,t < fs * rs := fun u hu => v8 u (List.mem_cons_of_mem _ hu)
          rw [List.length_cons] at v7
          refine ⟨stable_of (v := .ref _) v5,rfl,ite_tst (c := ch74 (B (bif Nat.blt d 4 then 4 else 3)) (roomL fs rs b s S.contains HL.contains HE) TM t) (tst_and (fun Q c => ⟨_,rfl,_,rfl,_,sub_pre v1 o2,ite_int (c := decide ((d : Int) < Int.ofNat 4)) (fun Q k => ⟨_,rfl,k _ rfl⟩) ⟨_,sub_pre v1 ob1,_,in_ok (v := .ref aB) rfl (get_pre v1 ob2),c _ rfl⟩⟩) fun _ => tst_and (fun Q c => ⟨_,rfl,_,rfl,_,in_ok (v := .ref a9) rfl v2,c _ rfl⟩) fun _ Q c =>
            ⟨_,rfl,_,sub_pre v1 o3,_,rfl,_,sq_ref (get_pre v1 eT) rfl (by rw [lT]; exact ht) (big ht hN),c _ (congrArg some gt_int)⟩) (fun c1 => ?_) (fun c1 => ?_)⟩
          · rw [List.filter_cons,if_pos c1] at v6
            exact ⟨_,rfl,_,v4,_,rfl,_,_,app_lst v4 (by rw [List.length_map]; exact le_k (Nat.le_trans (Nat.le_add_right ..) v7) (by decide)),rfl,l ++ [t],⟨_,rfl⟩,pre_set v1 n1 _,by rw [set_ne n2.symm]; exact v2,by rw [set_ne n3.symm]; exact v3,by rw [set_get v4,List.map_append]; rfl,by rw [set_ne nr]; exact v5,by rw [List.append_assoc]; exact v6,Nat.le_trans (Nat.add_le_add_right (grow1 (Nat.le_refl _)) _) v7,v8'⟩
          · rw [List.filter_cons,if_neg (by rw [c1]; decide)] at v6
            exact ⟨l,⟨_,rfl⟩,v1,v2,v3,v4,v5,v6,Nat.le_trans (Nat.add_le_add_right (Nat.le_succ _) _) v7,v8'⟩
        · obtain ⟨l,⟨o8,rfl⟩,v1,v2,v3,v4,v5,v6,v7,v8⟩ := j
          exact ⟨stable_of (v := .ref _) v5,l,a9,a10,a11,⟨_,_,rfl⟩,v1,⟨n1,n2,n3⟩,v2,v3,v4,v6,v7,fun d hd => q7 d (List.mem_cons_of_mem _ hd)⟩
      · obtain ⟨l,a9,a10,a11,⟨o8,o12,rfl⟩,q1,⟨n1,n2,n3⟩,q2,q3,q4,q5,q6,q7⟩ := j
        rw [show sldL fs rs b q B (roomL fs rs b s S.contains HL.contains HE) TM [] = [] from rfl,List.append_nil] at q5
        subst q5
        exact ⟨rfl,_,rfl,_,rfl,rfl,q1.trans (List.prefix_append _ _),a10,a11,unp_last,get_pre (List.prefix_append _ _) q3,get_pre (List.prefix_append _ _) q4⟩
      · exact ((pp.trans p4)).length_le
      · exact Nat.ne_of_lt (lt_app' (lt_app' (lt_app ..)))
      · exact Nat.ne_of_lt (lt_app ..)
  · have hl : Nat.beq ((List.range (fs * rs)).filter (isK b (1 - s) 5)).length 1 = false := by
      rw [beq_ff]; intro z; exact hq (List.length_eq_one_iff.mp z)
    have hqn : qnB fs rs b s = none := oneL_none hq
    rw [hqn]
    refine call_wp m74 hn ⟨rfl,_,rfl,_,eb,_,rfl,_,mulr_ok rfl,_,_,count_ok eb hc,fun _ => ⟨rfl,rfl,rfl,((List.prefix_append _ _).trans (List.prefix_append _ _)).trans (List.prefix_append _ _),_,_,unp_last,get_pre (List.prefix_append _ _) (get_pre (List.prefix_append _ _) (last_get _ _)),get_pre (List.prefix_append _ _) (last_get _ _)⟩,fun c => ?_⟩
    rw [hcnt,ne1,hl] at c; exact tt c
end
theorem len_filter {N : Nat} {L : List Nat} (nd : L.Nodup) (lt : ∀ t ∈ L,t < N) : ((List.range N).filter fun t => L.contains t).length = L.length := by
  refine List.Perm.length_eq ((List.perm_ext_iff_of_nodup (List.nodup_range.filter _) nd).mpr fun t => ?_)
  rw [List.mem_filter,List.mem_range,List.contains_iff_mem]
  exact ⟨fun h => h.2,fun h => ⟨lt t h,h⟩⟩
theorem till_sub {u t : Nat} : ∀ {l : List Nat},t ∈ tillN u l → t ∈ l
  | x :: r,h => by
    cases c : Nat.beq x u with
    | true => rw [till_yes c] at h; cases h
    | false =>
      rw [till_no c] at h
      rcases List.mem_cons.mp h with e | e
      · subst e; exact List.mem_cons_self
      · exact List.mem_cons_of_mem _ (till_sub e)
theorem till_nodup {u : Nat} : ∀ {l : List Nat},l.Nodup → (tillN u l).Nodup
  | [],_ => List.nodup_nil
  | x :: r,h => by
    have h' := List.nodup_cons.mp h
    cases c : Nat.beq x u with
    | true => rw [till_yes c]; exact List.nodup_nil
    | false => rw [till_no c]; exact List.nodup_cons.mpr ⟨fun z => h'.1 (till_sub z),till_nodup h'.2⟩
theorem any_congr {α : Type} {l : List α} {f g : α → Bool} (h : ∀ x ∈ l,f x = g x) : l.any f = l.any g := by
  induction l with
  | nil => rfl
  | cons x r ih => rw [List.any_cons,List.any_cons,h x List.mem_cons_self,ih fun y hy => h y (List.mem_cons_of_mem _ hy)]
noncomputable def gD (b : List Nat) (s d t : Nat) : Bool := occB b t && !(snD s d).contains (cell b t)
theorem scan_eq (b : List Nat) (s d t : Nat) : ∀ (l st : List Nat),l.Nodup → scanB b s d st l t = l.any fun u => (snD s d).contains (cell b u) && (st ++ (tillN u l).filter (gD b s d) == [t])
  | [],_,_ => rfl
  | x :: r,st,nd => by
    have nd' := List.nodup_cons.mp nd
    have h1 : tillN x (x :: r) = [] := till_yes (Nat.beq_refl x)
    have h2 : ∀ u ∈ r,tillN u (x :: r) = x :: tillN u r := fun u hu => till_no (beq_ff.mpr fun e => nd'.1 (by rw [e]; exact hu))
    rw [scan_cons,List.any_cons,h1,List.filter_nil,List.append_nil]
    cases hs : (snD s d).contains (cell b x) with
    | true =>
      have hg : gD b s d x = false := by unfold gD; rw [hs]; exact Bool.and_false _
      rw [cond_true,Bool.true_and,scan_eq b s d t r st nd'.2]
      refine congrArg (_ || ·) (any_congr fun u hu => ?_)
      rw [h2 u hu,List.filter_cons,if_neg (by rw [hg]; decide)]
    | false =>
      have hg : gD b s d x = occB b x := by unfold gD; rw [hs]; exact Bool.and_true _
      rw [cond_false,Bool.false_and,Bool.false_or,scan_eq b s d t r _ nd'.2]
      refine any_congr fun u hu => ?_
      rw [h2 u hu,List.filter_cons,hg]
      cases occB b x with
      | true => rw [cond_true,if_pos rfl,List.append_assoc]; rfl
      | false => rw [cond_false,if_neg (by decide)]
section
variable {fs rs : Nat} {b : List Nat} (Y : Good fs rs b)
include Y
theorem ray_nodup {d q : Nat} (hd : d < 8) (hq : q < fs * rs) : (rayL fs rs d q).Nodup := by
  cases hg : growing d with
  | true => exact (ray_up Y.dim hq hd hg).imp fun h => Nat.ne_of_lt h
  | false => exact (ray_down Y.dim hq hd hg).imp fun h => Nat.ne_of_gt h
omit Y in
theorem cut_free (l : List Nat) : cut (fun _ => false) l = l := cut_none fun _ _ => rfl
theorem slide_at {d k u : Nat} (hd : d < 8) (hk : k < fs * rs) (hu : u ∈ rayL fs rs d k) (c : Nat) : slideP fs rs c k (fun _ => false) u = slides c d := by
  have key := (chk2_of Y.dim hk hd hu).1
  unfold slideP
  rw [Bool.eq_iff_iff,List.any_eq_true]
  refine ⟨fun ⟨d',h1,h2⟩ => ?_,fun h => ⟨d,List.mem_range.mpr hd,by rw [h,cut_free,List.contains_iff_mem.mpr hu]; rfl⟩⟩
  obtain ⟨h3,h4⟩ := Bool.and_eq_true_iff.mp h2
  rw [cut_free,key d' (List.mem_range.mp h1)] at h4
  rw [← beq_iff'.mp h4]; exact h3
theorem dir_at {d k u : Nat} (hd : d < 8) (hk : k < fs * rs) (hu : u ∈ rayL fs rs d k) : dirOf fs rs k u = some d := by
  have key := (chk2_of Y.dim hk hd hu).1
  cases h : dirOf fs rs k u with
  | none => exact absurd (List.contains_iff_mem.mpr hu) (List.find?_eq_none.mp h d (List.mem_range.mpr hd))
  | some d' =>
    have h1 := dir_lt h
    have h2 : (rayL fs rs d' k).contains u = true := List.find?_some (p := fun d => (rayL fs rs d k).contains u) h
    rw [key d' h1] at h2
    rw [beq_iff'.mp h2]
theorem snip_at {s d u : Nat} (hs : s < 2) (hd : d < 8) (hu : u ∈ rayL fs rs d (kingOf b s)) : snipB fs rs b s u = (snD s d).contains (cell b u) := by
  unfold snipB
  rw [slide_at Y hd (king_lt Y hs) hu,slide_at Y hd (king_lt Y hs) hu]
  have hc := Y.lt u
  unfold kindB ownB occB snD
  have e4 : slides 4 d = decide (d < 4) := blt_decide ..
  have e3 : slides 3 d = !decide (d < 4) := by
    show Nat.ble 4 d = _
    rw [ble_decide,Bool.eq_iff_iff,decide_eq_true_eq,Bool.not_eq_true',decide_eq_false_iff_not]; exact Nat.not_lt.symm
  rw [e4,e3]
  generalize cell b u = c at hc
  rcases (two_ways hs) with rfl | rfl
  · cases decide (d < 4)
    · revert c; decide
    · revert c; decide
  · cases decide (d < 4)
    · revert c; decide
    · revert c; decide
theorem snip_ray {s u : Nat} (h : snipB fs rs b s u = true) : ∃ d,d < 8 ∧ u ∈ rayL fs rs d (kingOf b s) := by
  unfold snipB slideP at h
  have h := (Bool.and_eq_true_iff.mp h).1
  have key : ∀ c,((List.range 8).any fun d => slides c d && (cut (fun _ => false) (rayL fs rs d (kingOf b s))).contains u) = true → ∃ d,d < 8 ∧ u ∈ rayL fs rs d (kingOf b s) := fun c z => by
    obtain ⟨d,h1,h2⟩ := List.any_eq_true.mp z
    rw [cut_free] at h2
    exact ⟨d,List.mem_range.mp h1,List.contains_iff_mem.mp (Bool.and_eq_true_iff.mp h2).2⟩
  rcases Bool.or_eq_true_iff.mp h with z | z
  · exact key 4 (Bool.and_eq_true_iff.mp z).1
  · exact key 3 (Bool.and_eq_true_iff.mp z).1
theorem one_at {s d u t : Nat} (hs : s < 2) (hd : d < 8) (hu : u ∈ rayL fs rs d (kingOf b s)) (ht : t < fs * rs) : (one1 fs rs b s u && inP fs rs b s u t) = ((tillN u (rayL fs rs d (kingOf b s))).filter (gD b s d) == [t]) := by
  have hk := king_lt Y hs
  have nd := (till_nodup (u := u) (ray_nodup Y hd hk)).filter (gD b s d)
  have hin : ∀ x,x < fs * rs → inP fs rs b s u x = ((tillN u (rayL fs rs d (kingOf b s))).filter (gD b s d)).contains x := fun x hx => by
    unfold inP betw
    rw [dir_at Y hd hk hu]
    dsimp only
    rw [((chk2_of Y.dim hk hd hu).2 x hx).1,Bool.eq_iff_iff,Bool.and_eq_true,List.contains_iff_mem,List.contains_iff_mem,List.mem_filter]
    refine and_congr_right fun hm => ?_
    rw [snip_at Y hs hd (till_sub hm)]
    unfold gD
    cases ho : occB b x with
    | true => cases (snD s d).contains (cell b x) <;> decide
    | false =>
      have : (snD s d).contains (cell b x) = false := by
        unfold occB at ho
        rw [Bool.not_eq_false'] at ho
        rw [beq_iff'.mp ho]
        unfold snD
        have z : ∀ a c m : Nat,([a + 1 + m,c + 1 + m] : List Nat).contains 0 = false := fun a c m => by rw [Nat.add_right_comm a,Nat.add_right_comm c]; rfl
        cases decide (d < 4)
        · exact z 2 4 _
        · exact z 3 4 _
      rw [this]; decide
  have hlen : ((List.range (fs * rs)).filter (inP fs rs b s u)).length = ((tillN u (rayL fs rs d (kingOf b s))).filter (gD b s d)).length := by
    rw [← len_filter (N := fs * rs) nd fun x hx => ray_lt Y.dim hk hd (till_sub (List.mem_filter.mp hx).1)]
    exact congrArg List.length (List.filter_congr fun x hx => hin x (List.mem_range.mp hx))
  unfold one1
  rw [hlen,hin t ht]
  generalize (tillN u (rayL fs rs d (kingOf b s))).filter (gD b s d) = T
  rw [Bool.eq_iff_iff,Bool.and_eq_true,beq_iff',List.contains_iff_mem,beq_iff_eq]
  refine ⟨fun ⟨h1,h2⟩ => ?_,fun h => by rw [h]; exact ⟨rfl,List.mem_singleton.mpr rfl⟩⟩
  obtain ⟨w,rfl⟩ := List.length_eq_one_iff.mp h1
  rw [List.mem_singleton.mp h2]
theorem sh_eq {s t : Nat} (hs : s < 2) (ht : t < fs * rs) : shL fs rs b s t = shB fs rs b s t := by
  have hk := king_lt Y hs
  unfold shL shB
  rw [Bool.eq_iff_iff,List.any_eq_true,List.any_eq_true]
  refine ⟨fun ⟨d,h1,h2⟩ => ?_,fun ⟨u,h1,h2⟩ => ?_⟩
  · have hd := List.mem_range.mp h1
    rw [scan_eq b s d t _ _ (ray_nodup Y hd hk),List.any_eq_true] at h2
    obtain ⟨u,hu,h3⟩ := h2
    obtain ⟨h4,h5⟩ := Bool.and_eq_true_iff.mp h3
    refine ⟨u,List.mem_filter.mpr ⟨List.mem_range.mpr (ray_lt Y.dim hk hd hu),by rw [snip_at Y hs hd hu]; exact h4⟩,?_⟩
    rw [one_at Y hs hd hu ht]; exact h5
  · obtain ⟨h3,h4⟩ := List.mem_filter.mp h1
    obtain ⟨d,hd,hu⟩ := snip_ray Y h4
    refine ⟨d,List.mem_range.mpr hd,?_⟩
    rw [scan_eq b s d t _ _ (ray_nodup Y hd hk),List.any_eq_true]
    rw [one_at Y hs hd hu ht] at h2
    exact ⟨u,hu,Bool.and_eq_true_iff.mpr ⟨by rw [← snip_at Y hs hd hu]; exact h4,h2⟩⟩
end
theorem cut_sublist (stop : Nat → Bool) : ∀ l : List Nat,(cut stop l).Sublist l
  | [] => List.Sublist.refl _
  | x :: r => by
    cases h : stop x with
    | true => rw [cut_yes h]; exact List.Sublist.cons_cons x (List.nil_sublist r)
    | false => rw [cut_no h]; exact List.Sublist.cons_cons x (cut_sublist stop r)
theorem rows_sub (fs rs : Nat) (b : List Nat) (s k q : Nat) : (rowsL' fs rs b s k q (List.range 8)).Sublist (raysOf fs rs q) := by
  have f : ∀ d,(bif slides k d then cut (fun t => !(thr s k).contains (cell b t)) (rayL fs rs d q) else []).Sublist (rayL fs rs d q) := fun d => by
    cases slides k d with
    | true => exact cut_sublist _ _
    | false => exact List.nil_sublist _
  have e : rayL fs rs 7 q = rayL fs rs 7 q ++ [] := (List.append_nil _).symm
  unfold raysOf
  rw [e]
  exact (f 0).append ((f 1).append ((f 2).append ((f 3).append ((f 4).append ((f 5).append ((f 6).append ((f 7).append (List.Sublist.refl []))))))))
theorem stop_eq {fs rs : Nat} {b : List Nat} (Y : Good fs rs b) {s k x : Nat} (hs : s < 2) (hk : k = 3 ∨ k = 4 ∨ k = 5) : stopB b s k x = !(thr s k).contains (cell b x) := by
  have hc := Y.lt x
  have ho := Y.ok x
  unfold stopB kindB isK occB thr
  generalize cell b x = c at hc ho
  rcases (two_ways hs) with rfl | rfl <;> rcases hk with rfl | rfl | rfl <;> (revert ho; revert c; decide)
theorem cut_congr {f g : Nat → Bool} : ∀ {l : List Nat},(∀ x ∈ l,f x = g x) → cut f l = cut g l
  | [],_ => rfl
  | x :: r,h => by
    have hx := h x List.mem_cons_self
    cases c : g x with
    | true => rw [cut_yes c,cut_yes (hx.trans c)]
    | false => rw [cut_no c,cut_no (hx.trans c),cut_congr fun y hy => h y (List.mem_cons_of_mem _ hy)]
theorem contains_append' (l r : List Nat) (t : Nat) : (l ++ r).contains t = (l.contains t || r.contains t) := by
  rw [Bool.eq_iff_iff,Bool.or_eq_true,List.contains_iff_mem,List.contains_iff_mem,List.contains_iff_mem,List.mem_append]
theorem contains_flat (l : List Nat) (f : Nat → List Nat) (t : Nat) : (l.flatMap f).contains t = l.any fun x => (f x).contains t := by
  rw [Bool.eq_iff_iff,List.contains_iff_mem,List.mem_flatMap,List.any_eq_true]
  exact ⟨fun ⟨x,h1,h2⟩ => ⟨x,h1,List.contains_iff_mem.mpr h2⟩,fun ⟨x,h1,h2⟩ => ⟨x,h1,List.contains_iff_mem.mp h2⟩⟩
theorem contains_filter (l : List Nat) (p : Nat → Bool) (t : Nat) : (l.filter p).contains t = (l.contains t && p t) := by
  rw [Bool.eq_iff_iff,List.contains_iff_mem,List.mem_filter,Bool.and_eq_true,List.contains_iff_mem]
section
variable {fs rs : Nat} {b : List Nat} (Y : Good fs rs b)
include Y
theorem base_eq {s k q t : Nat} (hs : s < 2) (hk : k = 2 ∨ k = 3 ∨ k = 4 ∨ k = 5) : (baseL fs rs b s k q).contains t = attP fs rs s k q (stopB b s k) t := by
  have rows : ∀ k,k = 3 ∨ k = 4 ∨ k = 5 → (rowsL' fs rs b s k q (List.range 8)).contains t = slideP fs rs k q (stopB b s k) t := fun k hk => by
    unfold rowsL' slideP
    rw [contains_flat]
    refine any_congr fun d _ => ?_
    rw [cut_congr fun x _ => stop_eq Y hs hk]
    cases slides k d with
    | true => rfl
    | false => rfl
  rcases hk with rfl | rfl | rfl | rfl
  · have : rowsL' fs rs b s 2 q (List.range 8) = [] := rfl
    unfold baseL; rw [this,List.append_nil]; rfl
  · exact rows 3 (.inl rfl)
  · exact rows 4 (.inr (.inl rfl))
  · exact rows 5 (.inr (.inr rfl))
theorem base_nodup {s k q : Nat} (hq : q < fs * rs) (hk : k = 2 ∨ k = 3 ∨ k = 4 ∨ k = 5) : (baseL fs rs b s k q).Nodup := by
  have nd := (nodup_all Y.dim hq)
  have rows := fun k => List.Nodup.sublist (rows_sub fs rs b s k q) nd.1
  rcases hk with rfl | rfl | rfl | rfl
  · have : rowsL' fs rs b s 2 q (List.range 8) = [] := rfl
    unfold baseL; rw [this,List.append_nil]; exact nd.2.2.1
  · exact rows 3
  · exact rows 4
  · exact rows 5
theorem reach_nodup {q : Nat} (hq : q < fs * rs) (ho : occB b q = true) (sh : Bool) : (reachL fs rs b q sh).Nodup := by
  obtain ⟨k1,k7,s2⟩ := kind_range Y ho
  have nd := (nodup_all Y.dim hq)
  unfold reachL
  generalize cell b q % 8 = k at k1 k7
  rcases ((show ∀ k,k < 7 → 1 ≤ k → k = 1 ∨ k = 6 ∨ (k = 2 ∨ k = 3 ∨ k = 4 ∨ k = 5) by decide) k k7 k1) with rfl | rfl | hk
  · rcases (two_ways s2) with e | e
    · show (hopsL fs rs q (pawnL (cell b q / 8))).Nodup; rw [e]; exact nd.2.2.2.1
    · show (hopsL fs rs q (pawnL (cell b q / 8))).Nodup; rw [e]; exact nd.2.2.2.2
  · exact nd.2.1
  · have h := base_nodup (s := cell b q / 8) Y hq hk
    rcases hk with rfl | rfl | rfl | rfl <;> (cases sh; exact h; exact h.filter _)
theorem sh_ray {s q : Nat} (hs : s < 2) (h : shL fs rs b s q = true) : ∃ d,d < 8 ∧ q ∈ rayL fs rs d (kingOf b s) := by
  have hk := king_lt Y hs
  obtain ⟨d,h1,h2⟩ := List.any_eq_true.mp h
  have hd := List.mem_range.mp h1
  rw [scan_eq b s d q _ _ (ray_nodup Y hd hk),List.any_eq_true] at h2
  obtain ⟨u,hu,h3⟩ := h2
  have h4 := eq_of_beq (Bool.and_eq_true_iff.mp h3).2
  have h4' : (tillN u (rayL fs rs d (kingOf b s))).filter (gD b s d) = [q] := h4
  have h5 : q ∈ (tillN u (rayL fs rs d (kingOf b s))).filter (gD b s d) := by rw [h4']; exact List.mem_singleton.mpr rfl
  exact ⟨d,hd,till_sub (List.mem_filter.mp h5).1⟩
theorem rf_eq {s k q t : Nat} (hs : s < 2) (hk : 1 ≤ k ∧ k < 7) (hq : q < fs * rs) (hi : isK b s k q = true) (ht : t < fs * rs) : rfW fs rs b s (k,q) t = (rch fs rs b s q).contains t := by
  have hc : cell b q = 8 * s + k := beq_iff'.mp hi
  obtain ⟨hd8,h8⟩ := (code_iff (Nat.lt_succ_of_lt hk.2)).mp hc
  unfold rfW lineUp rch reachL
  rw [h8,hd8]
  dsimp only
  rw [← sh_eq Y hs hq]
  rcases ((show ∀ k,k < 7 → 1 ≤ k → k = 1 ∨ k = 6 ∨ (k = 2 ∨ k = 3 ∨ k = 4 ∨ k = 5) by decide) k hk.2 hk.1) with rfl | rfl | hk'
  · exact Bool.and_true _
  · exact Bool.and_true _
  · have hb := base_eq (q := q) (t := t) Y hs hk'
    rw [← hb]
    have n1 : Nat.beq k 1 = false := by rcases hk' with rfl | rfl | rfl | rfl <;> rfl
    have n6 : Nat.beq k 6 = false := by rcases hk' with rfl | rfl | rfl | rfl <;> rfl
    rw [n1,n6]
    have main : ((baseL fs rs b s k q).contains t && (!(!false && (!false && shL fs rs b s q)) || lineB fs rs (kingOf b s) q t)) = (bif shL fs rs b s q then (baseL fs rs b s k q).filter (crossI fs (kingOf b s) q) else baseL fs rs b s k q).contains t := by
      cases hsh : shL fs rs b s q with
      | false => exact Bool.and_true _
      | true =>
        rw [cond_true,contains_filter]
        refine congrArg (_ && ·) ?_
        obtain ⟨d,hd,hm⟩ := sh_ray Y hs hsh
        show (false || lineB fs rs (kingOf b s) q t) = _
        rw [Bool.false_or]
        unfold lineB
        rw [dir_at Y hd (king_lt Y hs) hm]
        dsimp only
        rw [← ((chk2_of Y.dim (king_lt Y hs) hd hm).2 t ht).2]
        have : Nat.beq (kingOf b s) t = Nat.beq t (kingOf b s) := by rw [Bool.eq_iff_iff,beq_iff',beq_iff']; exact eq_comm
        rw [this]
    rcases hk' with rfl | rfl | rfl | rfl <;> exact main
end
theorem sum_zero {f : Nat → Nat} : ∀ {K : List Nat},(∀ k ∈ K,f k = 0) → (K.map f).sum = 0
  | [],_ => rfl
  | k :: K,h => by rw [List.map_cons,List.sum_cons,h k List.mem_cons_self,sum_zero fun x hx => h x (List.mem_cons_of_mem _ hx)]
theorem sum_add {f g : Nat → Nat} : ∀ {K : List Nat},(K.map fun k => f k + g k).sum = (K.map f).sum + (K.map g).sum
  | [] => rfl
  | k :: K => by rw [List.map_cons,List.sum_cons,sum_add,List.map_cons,List.sum_cons,List.map_cons,List.sum_cons,Nat.add_add_add_comm]
theorem sum_one {f : Nat → Nat} {κ : Nat} : ∀ {K : List Nat},K.Nodup → κ ∈ K → (∀ k,k ≠ κ → f k = 0) → (K.map f).sum = f κ
  | k :: K,nd,m,h => by
    have n := List.nodup_cons.mp nd
    rw [List.map_cons,List.sum_cons]
    rcases List.mem_cons.mp m with e | e
    · subst e; rw [sum_zero fun x hx => h x fun z => n.1 (z ▸ hx),Nat.add_zero]
    · rw [h k fun z => n.1 (z ▸ e),sum_one n.2 e h,Nat.zero_add]
noncomputable def cntK (fs rs : Nat) (b : List Nat) (s t : Nat) (R : List Nat) (k : Nat) : Nat := (R.filter (isK b s k)).countP fun q => rfW fs rs b s (k,q) t
theorem cnt_cons {fs rs : Nat} {b : List Nat} {s t q k : Nat} {R : List Nat} : cntK fs rs b s t (q :: R) k = cntK fs rs b s t R k + (if (isK b s k q && rfW fs rs b s (k,q) t) = true then 1 else 0) := by
  unfold cntK
  rw [List.filter_cons]
  cases isK b s k q with
  | true => rw [if_pos rfl,List.countP_cons,Bool.true_and]
  | false => rfl
section
variable {fs rs : Nat} {b : List Nat} (Y : Good fs rs b)
theorem mem_own {s q : Nat} : q ∈ ownL fs rs b s ↔ q < fs * rs ∧ ownB b s q = true := by unfold ownL; rw [List.mem_filter,List.mem_range]
theorem own_isK {s k q : Nat} (hk : 1 ≤ k ∧ k < 8) : isK b s k q = (ownB b s q && Nat.beq (cell b q % 8) k) := by
  rw [← piece_eq hk.1 hk.2]
  unfold kindB ownB
  cases occB b q <;> simp
theorem mem_all {s k q : Nat} : (k,q) ∈ allW fs rs b s ↔ (1 ≤ k ∧ k < 7) ∧ q < fs * rs ∧ isK b s k q = true := by
  unfold allW
  rw [List.mem_flatMap]
  constructor
  · rintro ⟨k',h1,h2⟩
    obtain ⟨q',h3,h4⟩ := List.mem_map.mp h2
    obtain ⟨rfl,rfl⟩ := Prod.mk.inj h4
    obtain ⟨h5,h6⟩ := List.mem_filter.mp h3
    refine ⟨?_,List.mem_range.mp h5,h6⟩
    exact (show ∀ k ∈ [1,2,3,4,5,6],1 ≤ k ∧ k < 7 by decide) _ h1
  · rintro ⟨h1,h2,h3⟩
    refine ⟨k,?_,List.mem_map.mpr ⟨q,List.mem_filter.mpr ⟨List.mem_range.mpr h2,h3⟩,rfl⟩⟩
    exact (show ∀ k,k < 7 → 1 ≤ k → k ∈ [1,2,3,4,5,6] by decide) _ h1.2 h1.1
include Y
theorem by_eq {s k t : Nat} (hs : s < 2) (hk : 1 ≤ k ∧ k < 7) (ht : t < fs * rs) : byA fs rs b s k t = (byL fs rs b s (ownL fs rs b s) k).contains t := by
  have e : byA fs rs b s k t = (allW fs rs b s).any fun w => Nat.beq w.1 k && rfW fs rs b s w t := by
    obtain ⟨k,rfl⟩ := Nat.exists_eq_succ_of_ne_zero (Nat.ne_of_gt hk.1); rfl
  unfold byL
  rw [e,contains_flat,Bool.eq_iff_iff,List.any_eq_true,List.any_eq_true]
  constructor
  · rintro ⟨⟨k',q⟩,h1,h2⟩
    obtain ⟨h3,h4⟩ := Bool.and_eq_true_iff.mp h2
    obtain rfl : k' = k := beq_iff'.mp h3
    obtain ⟨h5,h6,h7⟩ := mem_all.mp h1
    have h8 := Bool.and_eq_true_iff.mp ((own_isK ⟨hk.1,Nat.lt_succ_of_lt hk.2⟩).symm.trans h7)
    exact ⟨q,mem_own.mpr ⟨h6,h8.1⟩,by rw [h8.2]; rw [rf_eq Y hs hk h6 h7 ht] at h4; exact h4⟩
  · rintro ⟨q,h1,h2⟩
    obtain ⟨h3,h4⟩ := mem_own.mp h1
    cases hb : Nat.beq (cell b q % 8) k with
    | false => rw [hb] at h2; exact ff h2
    | true =>
      rw [hb] at h2
      have h7 : isK b s k q = true := by rw [own_isK ⟨hk.1,Nat.lt_succ_of_lt hk.2⟩,h4,hb]; rfl
      exact ⟨(k,q),mem_all.mpr ⟨hk,h3,h7⟩,Bool.and_eq_true_iff.mpr ⟨Nat.beq_refl k,by rw [rf_eq Y hs hk h3 h7 ht]; exact h2⟩⟩
theorem num_eq {s t : Nat} (hs : s < 2) (ht : t < fs * rs) : numW fs rs b s (allW fs rs b s) t = (allR fs rs b s (ownL fs rs b s)).count t := by
  have e1 : numW fs rs b s (allW fs rs b s) t = ([1,2,3,4,5,6].map (cntK fs rs b s t (List.range (fs * rs)))).sum := by
    unfold numW allW
    rw [List.countP_flatMap]
    exact congrArg List.sum (List.map_congr_left fun k _ => List.countP_map ..)
  rw [e1]
  unfold allR ownL
  have key : ∀ R : List Nat,(∀ q ∈ R,q < fs * rs) → ([1,2,3,4,5,6].map (cntK fs rs b s t R)).sum = ((R.filter (ownB b s)).flatMap (rch fs rs b s)).count t := by
    intro R
    induction R with
    | nil => intro _; rfl
    | cons q R ih =>
      intro hR
      have ih := ih fun q hq => hR q (List.mem_cons_of_mem _ hq)
      have hq := hR q List.mem_cons_self
      rw [List.map_congr_left (fun k _ => cnt_cons),sum_add,ih]
      cases ho : ownB b s q with
      | false =>
        rw [List.filter_cons_of_neg (by rw [ho]; decide),sum_zero (fun k hk => by rw [own_isK ((show ∀ k ∈ [1,2,3,4,5,6],1 ≤ k ∧ k < 8 by decide) k hk),ho]; rfl),Nat.add_zero]
      | true =>
        obtain ⟨k1,k7,_⟩ := kind_range Y (own_occ ho)
        have hi : isK b s (cell b q % 8) q = true := by rw [own_isK ⟨k1,Nat.lt_succ_of_lt k7⟩,ho]; exact Nat.beq_refl _
        rw [List.filter_cons_of_pos ho,List.flatMap_cons,List.count_append,Nat.add_comm,List.Nodup.count (l := rch fs rs b s q) (reach_nodup Y hq (own_occ ho) _)]
        refine congrArg (· + _) ((sum_one (κ := cell b q % 8) (by decide) ((show ∀ k,k < 7 → 1 ≤ k → k ∈ [1,2,3,4,5,6] by decide) _ k7 k1) fun k hk => ?_).trans ?_)
        · rw [show isK b s k q = false from beq_ff.mpr fun z => hk (Nat.add_left_cancel (z.symm.trans (beq_iff'.mp hi)))]; rfl
        · rw [hi,rf_eq Y hs ⟨k1,k7⟩ hq hi ht,Bool.true_and]
          by_cases hm : t ∈ rch fs rs b s q
          · rw [if_pos hm,if_pos (List.contains_iff_mem.mpr hm)]
          · rw [if_neg hm,if_neg (fun z => hm (List.contains_iff_mem.mp z))]
  exact key _ fun q hq => List.mem_range.mp hq
theorem tw_eq {s t : Nat} (hs : s < 2) (ht : t < fs * rs) : twA fs rs b s t = Nat.blt 1 ((allR fs rs b s (ownL fs rs b s)).count t) := by
  unfold twA; rw [num_eq Y hs ht]
theorem by0_eq {s t : Nat} (hs : s < 2) (ht : t < fs * rs) : byA fs rs b s 0 t = !Nat.beq ((allR fs rs b s (ownL fs rs b s)).count t) 0 := by
  unfold byA
  rw [numW_pos,num_eq Y hs ht,Bool.eq_iff_iff,Nat.blt_eq,Bool.not_eq_true',beq_ff]; exact Nat.pos_iff_ne_zero
end
section
variable {fs rs : Nat} {b : List Nat}
theorem up_pawn (D : Dim fs rs) {s t : Nat} {p : Nat → Bool} (hs : s < 2) (ht : t < fs * rs) : upB fs rs s (nbB fs rs p) t = (List.range (fs * rs)).any fun q => p q && (hopsL fs rs q (pawnL s)).contains t := by
  have e : ((List.range (fs * rs)).any fun q => p q && (hopsL fs rs q (pawnL s)).contains t) = (List.range (fs * rs)).any fun q => p q && pawnC fs s q t := any_congr fun q hq => by rw [pawn_cond D (List.mem_range.mp hq) ht hs]
  rw [e]
  have hm := fun q : Nat => Nat.mod_lt q D.pos
  have last : (fs * rs - 1) % fs = fs - 1 := by
    obtain ⟨⟨a,_⟩,c,_⟩ := D
    obtain ⟨r,rfl⟩ := pos_rs c
    rw [show fs * (r + 1) - 1 = fs * r + (fs - 1) from (mul_pred (Nat.le_trans (by decide) a)).symm,Nat.mul_add_mod,Nat.mod_eq_of_lt (Nat.sub_lt (Nat.le_trans (by decide) a) (by decide))]
  rw [Bool.eq_iff_iff,List.any_eq_true]
  match s,hs with
  | 0,_ =>
    show (Nat.ble fs t && nbB fs rs p (t - fs)) = true ↔ _
    unfold nbB
    simp only [Bool.and_eq_true,Bool.or_eq_true,Nat.ble_eq,Nat.blt_eq,Bool.not_eq_true',beq_ff]
    constructor
    · rintro ⟨h1,⟨h2,h3,h4⟩ | ⟨h2,h3,h4⟩⟩
      · refine ⟨t - fs - 1,List.mem_range.mpr (sub_lt' (sub_lt' ht)),h3,?_⟩
        show (Nat.beq (t - fs - 1 + fs + 1) t && Nat.blt ((t - fs - 1) % fs + 1) fs || _) = true
        rw [beq_iff'.mpr (show t - fs - 1 + fs + 1 = t by rw [Nat.add_right_comm,Nat.sub_add_cancel h2,Nat.sub_add_cancel h1]),blt_decide,decide_eq_true (succ_lt' (hm _) h4)]; rfl
      · refine ⟨t - fs + 1,List.mem_range.mpr h2,h3,?_⟩
        show (_ || Nat.beq (t - fs + 1 + fs) (t + 1) && Nat.blt 0 ((t - fs + 1) % fs)) = true
        exact Bool.or_eq_true_iff.mpr (.inr (Bool.and_eq_true_iff.mpr ⟨beq_iff'.mpr (by rw [Nat.add_right_comm,Nat.sub_add_cancel h1]),Nat.blt_eq.mpr (Nat.pos_of_ne_zero h4)⟩))
    · rintro ⟨q,hq,hp,h⟩
      have hq := List.mem_range.mp hq
      have h : (Nat.beq (q + fs + 1) t && Nat.blt (q % fs + 1) fs || Nat.beq (q + fs) (t + 1) && Nat.blt 0 (q % fs)) = true := h
      simp only [Bool.and_eq_true,Bool.or_eq_true,beq_iff',Nat.blt_eq] at h
      rcases h with ⟨rfl,h2⟩ | ⟨h1,h2⟩
      · have e1 : q + fs + 1 - fs = q + 1 := eq_sub' (Nat.add_right_comm ..)
        exact ⟨Nat.le_succ_of_le (Nat.le_add_left ..),.inl ⟨e1 ▸ Nat.succ_pos q,by rw [e1]; exact hp,by rw [e1]; exact ne_last h2⟩⟩
      · cases q with
        | zero => rw [Nat.zero_mod] at h2; cases h2
        | succ q =>
          have h1 : q + fs = t := Nat.succ.inj ((Nat.add_right_comm ..).trans h1)
          have e1 : t - fs + 1 = q + 1 := congrArg (· + 1) (eq_sub' h1)
          exact ⟨h1 ▸ Nat.le_add_left ..,.inr ⟨e1 ▸ hq,by rw [e1]; exact hp,by rw [e1]; exact Nat.ne_of_gt h2⟩⟩
  | 1,_ =>
    show (Nat.blt (t + fs) (fs * rs) && nbB fs rs p (t + fs)) = true ↔ _
    unfold nbB
    simp only [Bool.and_eq_true,Bool.or_eq_true,Nat.ble_eq,Nat.blt_eq,Bool.not_eq_true',beq_ff]
    have hp0 := D.pos
    constructor
    · rintro ⟨h1,⟨h2,h3,h4⟩ | ⟨h2,h3,h4⟩⟩
      · refine ⟨t + fs - 1,List.mem_range.mpr (sub_lt' h1),h3,?_⟩
        have e0 : t + fs - 1 + 1 = t + fs := Nat.sub_add_cancel (Nat.le_trans hp0 (Nat.le_add_left ..))
        show (Nat.beq (t + fs - 1 + 1) (t + fs) && Nat.blt ((t + fs - 1) % fs + 1) fs || _) = true
        rw [beq_iff'.mpr e0,blt_decide,decide_eq_true (succ_lt' (hm _) h4)]; rfl
      · refine ⟨t + fs + 1,List.mem_range.mpr h2,h3,?_⟩
        show (_ || Nat.beq (t + fs + 1) (t + fs + 1) && Nat.blt 0 ((t + fs + 1) % fs)) = true
        exact Bool.or_eq_true_iff.mpr (.inr (Bool.and_eq_true_iff.mpr ⟨Nat.beq_refl _,Nat.blt_eq.mpr (Nat.pos_of_ne_zero h4)⟩))
    · rintro ⟨q,hq,hp,h⟩
      have hq := List.mem_range.mp hq
      have h : (Nat.beq (q + 1) (t + fs) && Nat.blt (q % fs + 1) fs || Nat.beq q (t + fs + 1) && Nat.blt 0 (q % fs)) = true := h
      simp only [Bool.and_eq_true,Bool.or_eq_true,beq_iff',Nat.blt_eq] at h
      rcases h with ⟨h1,h2⟩ | ⟨rfl,h2⟩
      · have e1 : t + fs - 1 = q := by rw [← h1]; rfl
        have : t + fs < fs * rs := h1 ▸ succ_lt' hq fun z => ne_last h2 (z ▸ last)
        exact ⟨this,.inl ⟨Nat.le_trans hp0 (Nat.le_add_left ..),by rw [e1]; exact hp,by rw [e1]; exact ne_last h2⟩⟩
      · exact ⟨Nat.lt_of_succ_lt hq,.inr ⟨hq,hp,Nat.ne_of_gt h2⟩⟩
variable (Y : Good fs rs b)
include Y
theorem pawn_by {s t : Nat} (hs : s < 2) (ht : t < fs * rs) : byA fs rs b s 1 t = upB fs rs s (nbB fs rs (isK b s 1)) t := by
  rw [by_eq Y hs (by decide) ht,up_pawn Y.dim hs ht]
  unfold byL
  rw [contains_flat,Bool.eq_iff_iff,List.any_eq_true,List.any_eq_true]
  have hr : ∀ q,isK b s 1 q = true → rch fs rs b s q = hopsL fs rs q (pawnL s) := fun q hq => by
    have hc : cell b q = 8 * s + 1 := beq_iff'.mp hq
    unfold rch reachL
    obtain ⟨c1,c2⟩ := (code_iff (by decide)).mp hc
    rw [c2,c1]; rfl
  constructor
  · rintro ⟨q,h1,h2⟩
    obtain ⟨h3,h4⟩ := mem_own.mp h1
    cases hb : Nat.beq (cell b q % 8) 1 with
    | false => rw [hb] at h2; exact ff h2
    | true =>
      rw [hb] at h2
      have hi : isK b s 1 q = true := by rw [own_isK (by decide),h4,hb]; rfl
      rw [cond_true,hr q hi] at h2
      exact ⟨q,List.mem_range.mpr h3,by rw [hi,h2]; rfl⟩
  · rintro ⟨q,h1,h2⟩
    obtain ⟨hi,h3⟩ := Bool.and_eq_true_iff.mp h2
    have h8 := Bool.and_eq_true_iff.mp ((own_isK (by decide)).symm.trans hi)
    exact ⟨q,mem_own.mpr ⟨List.mem_range.mp h1,h8.1⟩,by rw [h8.2,cond_true,hr q hi]; exact h3⟩
theorem up_fwd {s t : Nat} {p : Nat → Bool} (hs : s < 2) (hp : isK b s 1 t = true) (ht : t < fs * rs) : upB fs rs (1 - s) p t = p (fwd fs s t) := by
  have h := fwd_lt Y hs ht hp
  match s,hs with
  | 0,_ => show (Nat.blt (t + fs) (fs * rs) && p (t + fs)) = p (t + fs); rw [blt_decide,decide_eq_true (show t + fs < fs * rs from h.1)]; rfl
  | 1,_ => show (Nat.ble fs t && p (t - fs)) = p (t - fs); rw [ble_decide,decide_eq_true (h.2 rfl)]; rfl
theorem pawn_rk {s t : Nat} (hs : s < 2) (hp : isK b s 1 t = true) (ht : t < fs * rs) : 1 ≤ rkS fs rs s t ∧ rkS fs rs s t + 1 < rs := by
  obtain ⟨h1,h2⟩ := Y.pawn s t hs ht hp
  match s,hs with
  | 0,_ => exact ⟨h1,h2⟩
  | 1,_ => exact mirror h1 h2
theorem area_eq {s t : Nat} {sh S H : Nat → Bool} (hs : s < 2) (ht : t < fs * rs) (hS : sh t = S t) (hH : byA fs rs b (1 - s) 1 t = H t) : areaB fs rs b s sh t = areaL fs rs b s S H t := by
  unfold areaB areaL
  rw [← hS,← hH,pawn_by Y one_lt ht]
  cases hp : isK b s 1 t with
  | false => simp only [Bool.false_and,Bool.false_or,Bool.not_false,Bool.true_and,Bool.not_or,Bool.and_assoc]; cases isK b s 6 t <;> cases isK b s 5 t <;> simp
  | true =>
    rw [up_fwd Y hs hp ht]
    obtain ⟨h1,h2⟩ := pawn_rk Y hs hp ht
    have e : (Nat.beq (rkS fs rs s t) 1 || Nat.beq (rkS fs rs s t) 2) = Nat.blt (rkS fs rs s t) 3 := by
      revert h1; generalize rkS fs rs s t = k; exact match k with | 0 => nofun | 1 | 2 | k + 3 => fun _ => rfl
    rw [e]
    unfold occB
    simp only [Bool.true_and,Bool.not_or,Bool.and_assoc]
    cases isK b s 6 t <;> cases isK b s 5 t <;> simp
end
section
variable {fs rs : Nat} {b : List Nat} (Y : Good fs rs b)
include Y
theorem off_eq {s t : Nat} (hs : s < 2) : offB b s t = (!Nat.beq (cell b t) 0 && (!Nat.beq (cell b t / 8) s && Nat.blt 1 (cell b t % 8))) := by
  have hc := Y.lt t
  have ho := Y.ok t
  unfold offB ownB kindB occB
  generalize cell b t = c at hc ho
  rcases (two_ways hs) with rfl | rfl <;> (revert ho; revert c; decide)
theorem hit_eq {s t : Nat} {p : Nat → Bool} {L : List Nat} (hs : s < 2) (ht : t < fs * rs) (hL : ∀ q ∈ L,q < fs * rs) (hp : ∀ q,q < fs * rs → p q = L.contains q) : hitsB fs rs b s p t = (hitL fs rs b s L).contains t := by
  unfold hitsB hitL
  rw [contains_filter,contains_flat,up_pawn Y.dim hs ht,off_eq Y hs,List.contains_iff_mem.mpr (List.mem_range.mpr ht),Bool.true_and]
  refine congrArg (· && _) ?_
  rw [Bool.eq_iff_iff,List.any_eq_true,List.any_eq_true]
  constructor
  · rintro ⟨q,h1,h2⟩
    obtain ⟨h3,h4⟩ := Bool.and_eq_true_iff.mp h2
    rw [hp q (List.mem_range.mp h1)] at h3
    exact ⟨q,List.contains_iff_mem.mp h3,h4⟩
  · rintro ⟨q,h1,h2⟩
    exact ⟨q,List.mem_range.mpr (hL q h1),by rw [hp q (hL q h1),List.contains_iff_mem.mpr h1,h2]; rfl⟩
theorem up_mem {s t : Nat} {p : Nat → Bool} (hs : s < 2) (ht : t < fs * rs) : upB fs rs s p t = true ↔ ∃ u,u < fs * rs ∧ p u = true ∧ (fwd fs s u = t ∧ (s = 1 → fs ≤ u)) := by
  match s,hs with
  | 0,_ =>
    show (Nat.ble fs t && p (t - fs)) = true ↔ _
    rw [Bool.and_eq_true,Nat.ble_eq]
    exact ⟨fun ⟨h1,h2⟩ => ⟨t - fs,sub_lt' ht,h2,Nat.sub_add_cancel h1,nofun⟩,fun ⟨u,h1,h2,h3,_⟩ => by
      have h3 : u + fs = t := h3
      exact ⟨h3 ▸ Nat.le_add_left ..,by rw [eq_sub' h3]; exact h2⟩⟩
  | 1,_ =>
    show (Nat.blt (t + fs) (fs * rs) && p (t + fs)) = true ↔ _
    rw [Bool.and_eq_true,Nat.blt_eq]
    exact ⟨fun ⟨h1,h2⟩ => ⟨t + fs,h1,h2,Nat.add_sub_cancel ..,fun _ => Nat.le_add_left ..⟩,fun ⟨u,h1,h2,h3,h4⟩ => by
      have h3 : u - fs = t := h3
      have h4 := h4 rfl
      have : t + fs = u := by rw [← h3,Nat.sub_add_cancel h4]
      exact ⟨this ▸ h1,by rw [this]; exact h2⟩⟩
theorem rk_fwd {s u : Nat} (hs : s < 2) (hu : u < fs * rs) (hf : fwd fs s u < fs * rs) (hb : s = 1 → fs ≤ u) : rkS fs rs s (fwd fs s u) = rkS fs rs s u + 1 := by
  have hp := Y.dim.pos
  match s,hs with
  | 0,_ => show (u + fs) / fs = u / fs + 1; exact Nat.add_div_right u hp
  | 1,_ =>
    have h1 := hb rfl
    have h2 : u / fs = (u - fs) / fs + 1 := by rw [← Nat.add_div_right (u - fs) hp,Nat.sub_add_cancel h1]
    have h3 := div_lt_ranks hu
    show rs - 1 - (u - fs) / fs = rs - 1 - u / fs + 1
    rw [h2] at h3 ⊢
    exact sub_step h3
theorem push1_iff {s t : Nat} (hs : s < 2) (ht : t < fs * rs) : push1 fs rs b s t = true ↔ ∃ u,u < fs * rs ∧ isK b s 1 u = true ∧ fwd fs s u = t ∧ cell b t = 0 := by
  unfold push1 occB
  rw [Bool.and_eq_true,up_mem Y hs ht,Bool.not_not,beq_iff']
  exact ⟨fun ⟨⟨u,h1,h2,h3,_⟩,h4⟩ => ⟨u,h1,h2,h3,h4⟩,fun ⟨u,h1,h2,h3,h4⟩ => ⟨⟨u,h1,h2,h3,(fwd_lt Y hs h1 h2).2⟩,h4⟩⟩
theorem push_mem {s t : Nat} {hd : Bool} : (pushL fs rs b hd s).contains t = true ↔ ∃ u,u < fs * rs ∧ isK b s 1 u = true ∧ cell b (fwd fs s u) = 0 ∧ (t = fwd fs s u ∨ leapB fs rs b hd s u = true ∧ t = fwd fs s (fwd fs s u)) := by
  unfold pushL
  rw [List.contains_iff_mem,List.mem_flatMap]
  refine exists_congr fun u => ?_
  rw [List.mem_range,pushAt]
  refine and_congr_right fun hu => ?_
  cases h1 : isK b s 1 u with
  | false => simp
  | true =>
    cases h2 : Nat.beq (cell b (fwd fs s u)) 0 with
    | false => have := beq_ff.mp h2; simp [this]
    | true =>
      have := beq_iff'.mp h2
      cases leapB fs rs b hd s u <;> simp [this]
theorem push_eq {s t : Nat} {hd : Bool} (hs : s < 2) (ht : t < fs * rs) : (match (hd && Nat.ble 5 rs) with
    | true => push2 fs rs b s t
    | false => push1 fs rs b s t) = (pushL fs rs b hd s).contains t := by
  rw [Bool.eq_iff_iff,push_mem Y]
  cases hdb : (hd && Nat.ble 5 rs) with
  | false =>
    have nl : ∀ u,leapB fs rs b hd s u = false := fun u => by
      unfold leapB
      rw [show Nat.blt 4 rs = Nat.ble 5 rs from rfl,← Bool.and_assoc,hdb]; rfl
    show push1 fs rs b s t = true ↔ _
    rw [push1_iff Y hs ht]
    refine exists_congr fun u => and_congr_right fun hu => and_congr_right fun hp => ?_
    rw [nl u]
    exact ⟨fun ⟨h1,h2⟩ => ⟨by rw [h1]; exact h2,.inl h1.symm⟩,fun ⟨h1,h2⟩ => by
      rcases h2 with h2 | h2
      · exact ⟨h2.symm,by rw [h2]; exact h1⟩
      · exact nomatch h2.1⟩
  | true =>
    obtain ⟨h5,h6⟩ := Bool.and_eq_true_iff.mp hdb
    show push2 fs rs b s t = true ↔ _
    unfold push2
    rw [Bool.or_eq_true,push1_iff Y hs ht,Bool.and_eq_true,up_mem Y hs ht,show (!occB b t) = Nat.beq (cell b t) 0 from Bool.not_not _,beq_iff']
    constructor
    · rintro (⟨u,h1,h2,h3,h4⟩ | ⟨⟨u',h1,h2,h3,_⟩,h4⟩)
      · exact ⟨u,h1,h2,by rw [h3]; exact h4,.inl h3.symm⟩
      · obtain ⟨h7,h8⟩ := Bool.and_eq_true_iff.mp h2
        obtain ⟨u,g1,g2,g3,g4⟩ := (push1_iff Y hs h1).mp h7
        have hf := fwd_lt Y hs g1 g2
        have hr := rk_fwd Y hs g1 hf.1 hf.2
        rw [g3,beq_iff'.mp h8] at hr
        refine ⟨u,g1,g2,by rw [g3]; exact g4,.inr ⟨?_,by rw [g3]; exact h3.symm⟩⟩
        unfold leapB
        rw [h5,show Nat.blt 4 rs = true from h6,beq_iff'.mpr (show rkS fs rs s u = 1 from (Nat.succ.inj hr).symm),g3,h3,h4]; rfl
    · rintro ⟨u,h1,h2,h3,h4 | ⟨h4,h7⟩⟩
      · exact .inl ⟨u,h1,h2,h4.symm,by rw [h4]; exact h3⟩
      · have hf := fwd_lt Y hs h1 h2
        have hr := rk_fwd Y hs h1 hf.1 hf.2
        unfold leapB at h4
        simp only [Bool.and_eq_true,beq_iff'] at h4
        obtain ⟨_,hrs,g1,g2⟩ := h4
        have f2 := fwd2_lt Y.dim hs h1 (Nat.le_of_ble_eq_true hrs) g1
        refine .inr ⟨⟨fwd fs s u,hf.1,?_,h7.symm,fun e => ?_⟩,by rw [h7]; exact g2⟩
        · rw [(push1_iff Y hs hf.1).mpr ⟨u,h1,h2,rfl,h3⟩,hr,g1]; rfl
        · have := f2.2 e
          subst e
          exact Nat.le_sub_of_add_le this
end
section
variable {fs rs : Nat} {b : List Nat} (Y : Good fs rs b)
theorem qn_lt {s q : Nat} (h : qnB fs rs b s = some q) : q < fs * rs := List.mem_range.mp (List.mem_filter.mp (by rw [oneL_inv h]; exact List.mem_singleton.mpr rfl)).1
include Y
theorem room_eq {s t : Nat} {S H : Nat → Bool} {HE : List Nat} (hs : s < 2) (ht : t < fs * rs) (hS : shB fs rs b s t = S t) (hH : byA fs rs b (1 - s) 1 t = H t) (hE : strongB fs rs b s t = HE.contains t) : roomB fs rs b s t = (roomL fs rs b s S H HE).contains t := by
  unfold roomB roomL
  rw [contains_filter,contains_filter,List.contains_iff_mem.mpr (List.mem_range.mpr ht),Bool.true_and,area_eq Y hs ht hS hH,hE]
  cases isK b s 1 t <;> cases HE.contains t <;> simp
theorem q1_eq {s t : Nat} {B : Nat → List Nat} {R : List Nat} (ht : t < fs * rs) (hB : byA fs rs b s 2 t = (B 2).contains t) (hR : roomB fs rs b s t = R.contains t) :
    q1B fs rs b s t = (match qnB fs rs b s with | some q => jmpL fs rs q (B 2) R | none => []).contains t := by
  unfold q1B
  cases qnB fs rs b s with
  | none => rfl
  | some q =>
    show (_ && _) = (jmpL fs rs q (B 2) R).contains t
    unfold jmpL
    rw [contains_filter,hB,hR]
    cases (B 2).contains t <;> cases R.contains t <;> simp
theorem q2_eq {s t : Nat} {B : Nat → List Nat} {R TM : List Nat} (ht : t < fs * rs) (hB : ∀ k,1 ≤ k ∧ k < 7 → byA fs rs b s k t = (B k).contains t) (hR : roomB fs rs b s t = R.contains t) (hT : twA fs rs b s t = Nat.blt 1 (TM.getD t 0)) :
    q2B fs rs b s t = (match qnB fs rs b s with | some q => sldL fs rs b q B R TM (List.range 8) | none => []).contains t := by
  unfold q2B
  cases qnB fs rs b s with
  | none => rfl
  | some q =>
    show (_ && _) = (sldL fs rs b q B R TM (List.range 8)).contains t
    unfold sldL
    rw [contains_flat,hB 3 (by decide),hB 4 (by decide),hR,hT]
    unfold slideP
    have hcut : ∀ d,cut (fun t => !([0] : List Nat).contains (cell b t)) (rayL fs rs d q) = cut (occB b) (rayL fs rs d q) := fun d => cut_congr fun x _ => by
      unfold occB
      congr 1
      rw [Bool.eq_iff_iff,List.contains_iff_mem,List.mem_singleton,beq_iff']
    rw [Bool.eq_iff_iff]
    simp only [Bool.and_eq_true,Bool.or_eq_true,List.any_eq_true,contains_filter,hcut]
    constructor
    · rintro ⟨⟨⟨h1,d,h2,h3,h4⟩ | ⟨h1,d,h2,h3,h4⟩,h5⟩,h6⟩
      · have : Nat.blt d 4 = false := by
          have h3 : Nat.ble 4 d = true := h3
          rw [blt_decide,decide_eq_false_iff_not]; rw [Nat.ble_eq] at h3; exact Nat.not_lt.mpr h3
        exact ⟨d,h2,h4,by rw [this]; exact h1,h5,h6⟩
      · have : Nat.blt d 4 = true := h3
        exact ⟨d,h2,h4,by rw [this]; exact h1,h5,h6⟩
    · rintro ⟨d,h2,h4,h1,h5,h6⟩
      cases hd : Nat.blt d 4 with
      | true => rw [hd] at h1; exact ⟨⟨.inr ⟨h1,d,h2,hd,h4⟩,h5⟩,h6⟩
      | false =>
        rw [hd] at h1
        refine ⟨⟨.inl ⟨h1,d,h2,?_,h4⟩,h5⟩,h6⟩
        show Nat.ble 4 d = true
        rw [blt_decide,decide_eq_false_iff_not] at hd
        rw [Nat.ble_eq]; exact Nat.not_lt.mp hd
theorem q_nodup {s : Nat} {B : Nat → List Nat} {R TM : List Nat} : (match qnB fs rs b s with | some q => jmpL fs rs q (B 2) R | none => []).Nodup ∧ (match qnB fs rs b s with | some q => sldL fs rs b q B R TM (List.range 8) | none => []).Nodup ∧
    (∀ t ∈ (match qnB fs rs b s with | some q => jmpL fs rs q (B 2) R | none => []),t < fs * rs) ∧ (∀ t ∈ (match qnB fs rs b s with | some q => sldL fs rs b q B R TM (List.range 8) | none => []),t < fs * rs) := by
  cases h : qnB fs rs b s with
  | none => exact ⟨List.nodup_nil,List.nodup_nil,fun t ht => (nomatch ht),fun t ht => (nomatch ht)⟩
  | some q =>
    have hq := qn_lt h
    have nd := nodup_all Y.dim hq
    have f : ∀ d,((cut (fun t => !([0] : List Nat).contains (cell b t)) (rayL fs rs d q)).filter fun t => (B (bif Nat.blt d 4 then 4 else 3)).contains t && (R.contains t && Nat.blt 1 (TM.getD t 0))).Sublist (rayL fs rs d q) := fun d => List.filter_sublist.trans (cut_sublist _ _)
    have e : rayL fs rs 7 q = rayL fs rs 7 q ++ [] := (List.append_nil _).symm
    have sub : (sldL fs rs b q B R TM (List.range 8)).Sublist (raysOf fs rs q) := by
      unfold raysOf
      rw [e]
      exact (f 0).append ((f 1).append ((f 2).append ((f 3).append ((f 4).append ((f 5).append ((f 6).append ((f 7).append (List.Sublist.refl []))))))))
    exact ⟨nd.2.2.1.filter _,List.Nodup.sublist sub nd.1,fun t ht => (lt_all Y.dim hq).2.2.1 t (List.mem_filter.mp ht).1,fun t ht => (lt_all Y.dim hq).1 t (sub.subset ht)⟩
end
theorem cell_nat {N : Nat} {b : List Nat} {s m : Nat} : cellI N b s (m : Int) = (Nat.blt m N && isK b s 1 m) := by
  unfold cellI
  rw [decide_eq_true (Int.natCast_nonneg m),Bool.true_and,Int.toNat_natCast,lt_int']
theorem cell_neg {N : Nat} {b : List Nat} {s : Nat} {x : Int} (h : x < 0) : cellI N b s x = false := by
  unfold cellI
  rw [decide_eq_false (Int.not_le.mpr h)]; rfl
theorem step0 (fs t k : Nat) : stepI fs 0 t k = ((t + fs * k : Nat) : Int) := by
  unfold stepI
  show (t : Int) + (fs : Int) * (1 - 2 * 0) * (k : Int) = _
  rw [show (1 : Int) - 2 * 0 = 1 from rfl,Int.mul_one,Int.natCast_add,Int.natCast_mul]
theorem step1 (fs t k : Nat) : stepI fs 1 t k = (t : Int) - ((fs * k : Nat) : Int) := by
  unfold stepI
  show (t : Int) + (fs : Int) * (1 - 2 * 1) * (k : Int) = _
  rw [show (1 : Int) - 2 * 1 = -1 from rfl,Int.mul_neg,Int.mul_one,Int.neg_mul,Int.natCast_mul]; rfl
theorem cell_sub {N : Nat} {b : List Nat} {s t m : Nat} (ht : t < N) : cellI N b s ((t : Int) - (m : Int)) = (Nat.ble m t && isK b s 1 (t - m)) := by
  by_cases h : m ≤ t
  · rw [show (t : Int) - (m : Int) = ((t - m : Nat) : Int) from cast_sub h,cell_nat,ble_decide,decide_eq_true h,blt_decide,decide_eq_true (sub_lt' ht : t - m < N)]
  · rw [cell_neg (Int.sub_neg_of_lt (Int.ofNat_lt.mpr (Nat.lt_of_not_le h))),ble_decide,decide_eq_false h]; rfl
theorem wide_eq {fs rs : Nat} {b : List Nat} {s t : Nat} {H : Nat → Bool} (hH : byA fs rs b (1 - s) 1 t = H t) : wideB fs rs b s t = roomC fs rs b s H t := by
  unfold wideB roomC midB
  rw [hH,show Nat.blt 1 (rkS fs rs s t) = Nat.ble 2 (rkS fs rs s t) from rfl]
  simp only [Bool.and_assoc]
theorem back_eq {fs rs : Nat} {b : List Nat} {s t : Nat} (hs : s < 2) (ht : t < fs * rs) (hp : isK b s 1 t = false) : back3 fs rs b s t = rowB fs rs b s t := by
  unfold back3 rowB back1
  rw [hp,Bool.false_or]
  match s,hs with
  | 0,_ =>
    rw [step0,step0,step0,cell_nat,cell_nat,cell_nat,Nat.mul_one]
    show ((Nat.blt (t + fs) (fs * rs) && isK b 0 1 (t + fs)) || (Nat.blt (t + fs) (fs * rs) && (Nat.blt (t + fs + fs) (fs * rs) && (isK b 0 1 (t + fs + fs) || (Nat.blt (t + fs + fs + fs) (fs * rs) && isK b 0 1 (t + fs + fs + fs)))))) = _
    rw [show t + fs * 2 = t + fs + fs from (Nat.add_assoc t (fs * 1) fs).symm.trans (by rw [Nat.mul_one]),show t + fs * 3 = t + fs + fs + fs from three t fs]
    simp only [blt_decide]
    by_cases h1 : t + fs < fs * rs
    · by_cases h2 : t + fs + fs < fs * rs
      · simp [h1,h2]
      · have h3 : ¬ t + fs + fs + fs < fs * rs := fun z => h2 (Nat.lt_of_le_of_lt (Nat.le_add_right ..) z)
        simp [h1,h2,h3]
    · have h2 : ¬ t + fs + fs < fs * rs := fun z => h1 (Nat.lt_of_le_of_lt (Nat.le_add_right ..) z)
      have h3 : ¬ t + fs + fs + fs < fs * rs := fun z => h2 (Nat.lt_of_le_of_lt (Nat.le_add_right ..) z)
      simp [h1,h2,h3]
  | 1,_ =>
    rw [step1,step1,step1,cell_sub ht,cell_sub ht,cell_sub ht,Nat.mul_one]
    show ((Nat.ble fs t && isK b 1 1 (t - fs)) || (Nat.ble fs t && (Nat.ble fs (t - fs) && (isK b 1 1 (t - fs - fs) || (Nat.ble fs (t - fs - fs) && isK b 1 1 (t - fs - fs - fs)))))) = _
    have e2 : t - fs * 2 = t - fs - fs := by rw [Nat.mul_two,Nat.sub_add_eq]
    have e3 : t - fs * 3 = t - fs - fs - fs := by rw [Nat.mul_succ,Nat.sub_add_eq,e2]
    have c2 : fs ≤ t → (fs * 2 ≤ t ↔ fs ≤ t - fs) := fun h => by rw [Nat.mul_two,Nat.le_sub_iff_add_le h]
    have c3 : fs * 2 ≤ t → (fs * 3 ≤ t ↔ fs ≤ t - fs - fs) := fun h => by rw [Nat.mul_succ,← e2,Nat.le_sub_iff_add_le h,Nat.add_comm]
    rw [e2,e3]
    simp only [ble_decide]
    by_cases h1 : fs ≤ t
    · by_cases h2 : fs ≤ t - fs
      · have h2' : fs * 2 ≤ t := (c2 h1).mpr h2
        by_cases h3 : fs ≤ t - fs - fs
        · have h3' : fs * 3 ≤ t := (c3 h2').mpr h3
          simp [h1,h2,h3,h2',h3']
        · have h3' : ¬ fs * 3 ≤ t := fun z => h3 ((c3 h2').mp z)
          simp [h1,h2,h3,h2',h3']
      · have h2' : ¬ fs * 2 ≤ t := fun z => h2 ((c2 h1).mp z)
        have h3' : ¬ fs * 3 ≤ t := fun z => h2' (Nat.le_trans (Nat.mul_le_mul_left fs (by decide)) z)
        simp [h1,h2,h2',h3']
    · have h2' : ¬ fs * 2 ≤ t := fun z => h1 (Nat.le_trans (Nat.le_mul_of_pos_right fs (by decide)) z)
      have h3' : ¬ fs * 3 ≤ t := fun z => h1 (Nat.le_trans (Nat.le_mul_of_pos_right fs (by decide)) z)
      simp [h1,h2',h3']
section
variable {fs rs : Nat} {b : List Nat} (Y : Good fs rs b)
include Y
theorem space_eq {s : Nat} {H : Nat → Bool} {TM : List Nat} (hs : s < 2) (hH : ∀ t,t < fs * rs → byA fs rs b (1 - s) 1 t = H t) (hT : ∀ t,t < fs * rs → byA fs rs b (1 - s) 0 t = !Nat.beq (TM.getD t 0) 0) : spaceN fs rs b s = roomN fs rs b s H TM (List.range (fs * rs)) := by
  unfold spaceN roomN fl
  congr 1
  · exact congrArg List.length (List.filter_congr fun t ht => wide_eq (hH t (List.mem_range.mp ht)))
  · refine congrArg List.length (List.filter_congr fun t ht => ?_)
    have ht := List.mem_range.mp ht
    rw [hT t ht,Bool.not_not,wide_eq (hH t ht)]
    cases hr : roomC fs rs b s H t with
    | false => simp
    | true =>
      have hp : isK b s 1 t = false := by
        unfold roomC at hr
        simp only [Bool.and_eq_true,Bool.not_eq_true'] at hr
        exact hr.2.2.1
      rw [back_eq hs ht hp]
      cases rowB fs rs b s t <;> cases Nat.beq (TM.getD t 0) 0 <;> rfl
theorem off_len : offN fs rs b = ((List.range (fs * rs)).filter fun t => [2,3,4,5].contains (cell b t % 8)).length := by
  unfold offN fl
  refine congrArg List.length (List.filter_congr fun t _ => ?_)
  have hc := Y.lt t
  have ho := Y.ok t
  unfold kindB occB
  generalize cell b t = c at hc ho
  revert ho; revert c; decide
theorem block_eq : blockN fs rs b = 2 * ((List.range (fs * rs)).filter fun t => Nat.beq (cell b t) 1 && Nat.beq (cell b (t + fs)) 9).length := by
  unfold blockN fl
  congr 1
  obtain ⟨m,hm⟩ : ∃ m,fs * rs = fs + m := ⟨fs * rs - fs,(Nat.add_sub_cancel' (Nat.le_mul_of_pos_right fs (Nat.le_trans (by decide) Y.dim.2.1))).symm⟩
  have e1 : List.range (fs * rs) = List.range fs ++ (List.range m).map (fs + ·) := by rw [hm,List.range_add]
  have e2 : List.range (fs * rs) = List.range m ++ (List.range fs).map (m + ·) := by rw [hm,Nat.add_comm,List.range_add]
  have big : ∀ t,fs * rs ≤ t → cell b t = 0 := fun t ht => by
    rw [cell,List.getD_eq_getElem?_getD,List.getElem?_eq_none (by rw [Y.len]; exact ht)]; rfl
  have l1 : ((List.range (fs * rs)).filter fun t => isK b 1 1 t && upB fs rs 0 (isK b 0 1) t).length = ((List.range m).filter fun t => Nat.beq (cell b (fs + t)) 9 && Nat.beq (cell b t) 1).length := by
    rw [e1,List.filter_append,List.length_append,List.filter_eq_nil_iff.mpr fun t ht => by
      have := List.mem_range.mp ht
      show ¬ (_ && (Nat.ble fs t && _)) = true
      rw [ble_decide,decide_eq_false (Nat.not_le.mpr this)]; simp,List.filter_map,List.length_map,List.length_nil,Nat.zero_add]
    refine congrArg List.length (List.filter_congr fun t _ => ?_)
    show (isK b 1 1 (fs + t) && (Nat.ble fs (fs + t) && isK b 0 1 (fs + t - fs))) = _
    rw [ble_decide,decide_eq_true (Nat.le_add_right fs t),Nat.add_sub_cancel_left]; rfl
  have l2 : ((List.range (fs * rs)).filter fun t => Nat.beq (cell b t) 1 && Nat.beq (cell b (t + fs)) 9).length = ((List.range m).filter fun t => Nat.beq (cell b t) 1 && Nat.beq (cell b (t + fs)) 9).length := by
    rw [e2,List.filter_append,List.length_append,List.filter_map,List.length_map]
    have : (List.range fs).filter ((fun t => Nat.beq (cell b t) 1 && Nat.beq (cell b (t + fs)) 9) ∘ (m + ·)) = [] := List.filter_eq_nil_iff.mpr fun t _ => by
      show ¬ (_ && Nat.beq (cell b (m + t + fs)) 9) = true
      rw [big (m + t + fs) (by rw [hm,Nat.add_comm fs m,Nat.add_right_comm]; exact Nat.le_add_right ..)]; simp
    rw [this]; rfl
  rw [l1,l2]
  refine congrArg List.length (List.filter_congr fun t _ => ?_)
  rw [Nat.add_comm fs t,Bool.and_comm]
end
section
variable {P : Par} {F : Call}
end
theorem app_at (h L : H) (i : Nat) : (h ++ L)[h.length + i]? = L[i]? := by
  rw [List.getElem?_append_right (Nat.le_add_right ..),Nat.add_sub_cancel_left]
theorem app_set (h L : H) (i : Nat) (o : O) : (h ++ L).set (h.length + i) o = h ++ L.set i o := by
  rw [List.set_append,if_neg (Nat.not_lt_of_le (Nat.le_add_right ..)),Nat.add_sub_cancel_left]
theorem heap_eq {P : Par} {F : Call} {ss : MSs} {σ : Sig} {h1 h2 : H} {Q : Fl → Sig → H → Prop} (e : h1 = h2) (w : wSs P F ss σ h2 Q) : wSs P F ss σ h1 Q := e ▸ w
noncomputable def cntL (fs rs : Nat) (b : List Nat) (s t : Nat) : Nat := (allR fs rs b s (ownL fs rs b s)).count t
noncomputable def inBy (fs rs : Nat) (b : List Nat) (s k t : Nat) : Bool := (byL fs rs b s (ownL fs rs b s) k).contains t
structure Lk (C : Nat → Option O) (h : H) (v bv : V) (as at_ : Nat) (S TM : List Nat) (fs rs : Nat) (b : List Nat) (s : Nat) : Prop where
  o0 : getSub C h v (.int (.ofNat 0)) = some (.ref as)
  eS : h[as]? = some (.lst (S.map vN))
  hS : ∀ t,S.contains t = shL fs rs b s t
  o2 : getSub C h v (.int (.ofNat 2)) = some bv
  rows : ∀ k,k < 7 → ∃ a,getSub C h bv (.int (k : Nat)) = some (.ref a) ∧ h[a]? = some (.lst ((byL fs rs b s (ownL fs rs b s) k).map vN))
  o3 : getSub C h v (.int (.ofNat 3)) = some (.ref at_)
  eT : h[at_]? = some (.lst (TM.map vN))
  lT : TM.length = fs * rs
  cT : ∀ t,t < fs * rs → TM.getD t 0 = cntL fs rs b s t
theorem Lk.mono {C : Nat → Option O} {B h : H} {v bv : V} {as at_ : Nat} {S TM : List Nat} {fs rs : Nat} {b : List Nat} {s : Nat} (p : B <+: h) (x : Lk C B v bv as at_ S TM fs rs b s) : Lk C h v bv as at_ S TM fs rs b s :=
  ⟨sub_pre p x.o0,get_pre p x.eS,x.hS,sub_pre p x.o2,fun k hk => let ⟨a,e1,e2⟩ := x.rows k hk; ⟨a,sub_pre p e1,get_pre p e2⟩,sub_pre p x.o3,get_pre p x.eT,x.lT,x.cT⟩
theorem lk_of {C : Nat → Option O} {h : H} {v : V} {fs rs : Nat} {b : List Nat} {s : Nat} (x : LooksAt C h v fs rs b s) : ∃ bv as at_ S TM,Lk C h v bv as at_ S TM fs rs b s := by
  obtain ⟨⟨a,L,a1,a2,a3⟩,⟨v',b1,b2⟩,c,M,c1,c2,c3,c4⟩ := x
  exact ⟨v',a,c,L,M,a1,a2,a3,b1,b2,c1,c2,c3,c4⟩
section
variable {P : Par} {F : Call} {σ : Sig} {h : H} {v bv : V} {as at_ : Nat} {S TM : List Nat} {fs rs : Nat} {b : List Nat} {s i j k t : Nat}
theorem tst_inby (x : Lk P.C h v bv as at_ S TM fs rs b s) (ei : σ[i]? = some (some (vN t))) (ej : σ[j]? = some (some v)) (hk : k < 7) : Tst P F (.cmp .In (.var i) (.sub (.sub (.var j) (.const (.int (.ofNat 2)))) (.const (.int (.ofNat k))))) σ h (inBy fs rs b s k t) := fun Q c => by
  obtain ⟨a,e1,e2⟩ := x.rows k hk
  exact ⟨_,ei,_,ej,_,x.o2,_,e1,_,in_ok (v := .ref a) rfl e2,c _ rfl⟩
theorem tst_notby (x : Lk P.C h v bv as at_ S TM fs rs b s) (ei : σ[i]? = some (some (vN t))) (ej : σ[j]? = some (some v)) (hk : k < 7) : Tst P F (.cmp .NotIn (.var i) (.sub (.sub (.var j) (.const (.int (.ofNat 2)))) (.const (.int (.ofNat k))))) σ h (!inBy fs rs b s k t) := fun Q c => by
  obtain ⟨a,e1,e2⟩ := x.rows k hk
  exact ⟨_,ei,_,ej,_,x.o2,_,e1,_,notin_ok (v := .ref a) rfl e2,c _ rfl⟩
theorem tst_inb (x : Lk P.C h v bv as at_ S TM fs rs b s) (ei : σ[i]? = some (some (vN t))) (ej : σ[j]? = some (some bv)) (hk : k < 7) : Tst P F (.cmp .In (.var i) (.sub (.var j) (.const (.int (.ofNat k))))) σ h (inBy fs rs b s k t) := fun Q c => by
  obtain ⟨a,e1,e2⟩ := x.rows k hk
  exact ⟨_,ei,_,ej,_,e1,_,in_ok (v := .ref a) rfl e2,c _ rfl⟩
theorem lk_tm (x : Lk P.C h v bv as at_ S TM fs rs b s) (ht : t < fs * rs) (hN : fs * rs ≤ 1000) : getSub P.C h (.ref at_) (.int (t : Nat)) = some (vN (cntL fs rs b s t)) := by
  rw [← x.cT t ht]; exact sq_ref x.eT rfl (by rw [x.lT]; exact ht) (Nat.le_trans (Nat.le_of_lt ht) (Nat.le_trans hN (by decide)))
theorem tst_tm0 (x : Lk P.C h v bv as at_ S TM fs rs b s) (ht : t < fs * rs) (hN : fs * rs ≤ 1000) (ei : σ[i]? = some (some (vN t))) (ej : σ[j]? = some (some v)) : Tst P F (.cmp .Eq (.sub (.sub (.var j) (.const (.int (.ofNat 3)))) (.var i)) (.const (.int (.ofNat 0)))) σ h (Nat.beq (cntL fs rs b s t) 0) := fun Q c =>
  ⟨_,ej,_,x.o3,_,ei,_,lk_tm x ht hN,c _ (congrArg some eq_int)⟩
theorem tst_tmn (x : Lk P.C h v bv as at_ S TM fs rs b s) (ht : t < fs * rs) (hN : fs * rs ≤ 1000) (ei : σ[i]? = some (some (vN t))) (ej : σ[j]? = some (some v)) : Tst P F (.sub (.sub (.var j) (.const (.int (.ofNat 3)))) (.var i)) σ h (!Nat.beq (cntL fs rs b s t) 0) := fun Q c =>
  ⟨_,ej,_,x.o3,_,ei,_,lk_tm x ht hN,c _ tst_int⟩
theorem tst_tmgt (x : Lk P.C h v bv as at_ S TM fs rs b s) (ht : t < fs * rs) (hN : fs * rs ≤ 1000) (ei : σ[i]? = some (some (vN t))) (ej : σ[j]? = some (some v)) : Tst P F (.cmp .Gt (.sub (.sub (.var j) (.const (.int (.ofNat 3)))) (.var i)) (.const (.int (.ofNat 1)))) σ h (Nat.blt 1 (cntL fs rs b s t)) := fun Q c =>
  ⟨_,ej,_,x.o3,_,ei,_,lk_tm x ht hN,c _ (congrArg some gt_int)⟩
theorem tst_ref {a : Nat} {L : List Nat} (e : h[a]? = some (.lst (L.map vN))) (ei : σ[i]? = some (some (vN t))) (ej : σ[j]? = some (some (.ref a))) : Tst P F (.cmp .In (.var i) (.var j)) σ h (L.contains t) := fun Q c => ⟨_,ei,_,ej,_,in_ok (v := .ref a) rfl e,c _ rfl⟩
theorem tst_nref {a : Nat} {L : List Nat} (e : h[a]? = some (.lst (L.map vN))) (ei : σ[i]? = some (some (vN t))) (ej : σ[j]? = some (some (.ref a))) : Tst P F (.cmp .NotIn (.var i) (.var j)) σ h (!L.contains t) := fun Q c => ⟨_,ei,_,ej,_,notin_ok (v := .ref a) rfl e,c _ rfl⟩
theorem tst_tmv (x : Lk P.C h v bv as at_ S TM fs rs b s) (ht : t < fs * rs) (hN : fs * rs ≤ 1000) (ei : σ[i]? = some (some (vN t))) (ej : σ[j]? = some (some (.ref at_))) : Tst P F (.sub (.var j) (.var i)) σ h (!Nat.beq (cntL fs rs b s t) 0) := fun Q c =>
  ⟨_,ej,_,ei,_,lk_tm x ht hN,c _ tst_int⟩
theorem tst_tmvgt (x : Lk P.C h v bv as at_ S TM fs rs b s) (ht : t < fs * rs) (hN : fs * rs ≤ 1000) (ei : σ[i]? = some (some (vN t))) (ej : σ[j]? = some (some (.ref at_))) : Tst P F (.cmp .Gt (.sub (.var j) (.var i)) (.const (.int (.ofNat 1)))) σ h (Nat.blt 1 (cntL fs rs b s t)) := fun Q c =>
  ⟨_,ej,_,ei,_,lk_tm x ht hN,c _ (congrArg some gt_int)⟩
theorem tst_tmvlt (x : Lk P.C h v bv as at_ S TM fs rs b s) (ht : t < fs * rs) (hN : fs * rs ≤ 1000) (ei : σ[i]? = some (some (vN t))) (ej : σ[j]? = some (some (.ref at_))) : Tst P F (.cmp .Lt (.sub (.var j) (.var i)) (.const (.int (.ofNat 2)))) σ h (Nat.blt (cntL fs rs b s t) 2) := fun Q c =>
  ⟨_,ej,_,ei,_,lk_tm x ht hN,c _ (congrArg some lt_int)⟩
end
section
variable (fs rs : Nat) (b : List Nat)
noncomputable def pEn (s t : Nat) : Bool := !Nat.beq (cell b t) 0 && !Nat.beq (cell b t / 8) s
noncomputable def enL (s : Nat) : List Nat := (List.range (fs * rs)).filter (pEn b s)
noncomputable def ofL (s : Nat) : List Nat := (enL fs rs b s).filter fun t => Nat.blt 1 (cell b t % 8)
noncomputable def heL (s : Nat) : List Nat := (List.range (fs * rs)).filter fun t => inBy fs rs b (1 - s) 1 t || (Nat.blt 1 (cntL fs rs b (1 - s) t) && Nat.blt (cntL fs rs b s t) 2)
noncomputable def weL (s : Nat) : List Nat := (enL fs rs b s).filter fun t => !(heL fs rs b s).contains t && !Nat.beq (cntL fs rs b s t) 0
noncomputable def haL (s : Nat) : List Nat := (weL fs rs b s).filter fun t => Nat.beq (cntL fs rs b (1 - s) t) 0 || ((ofL fs rs b s).contains t && Nat.blt 1 (cntL fs rs b s t))
noncomputable def leL (s : Nat) : List Nat := (enL fs rs b s).filter fun t => ((weL fs rs b s).contains t || ((ofL fs rs b s).contains t && (heL fs rs b s).contains t)) && (inBy fs rs b s 2 t || inBy fs rs b s 3 t)
noncomputable def tiL (s : Nat) : List Nat := (List.range (fs * rs)).filter fun t => !Nat.beq (cntL fs rs b s t) 0 && (!Nat.beq (cntL fs rs b (1 - s) t) 0 && !(heL fs rs b s).contains t)
noncomputable def sfL (s : Nat) : List Nat := (List.range (fs * rs)).filter fun t => Nat.beq (cntL fs rs b (1 - s) t) 0 || !Nat.beq (cntL fs rs b s t) 0
noncomputable def goL (hd : Bool) (s : Nat) : List Nat := (pushL fs rs b hd s).filter fun t => (sfL fs rs b s).contains t && !inBy fs rs b (1 - s) 1 t
noncomputable def paL (s : Nat) : List Nat := (List.range (fs * rs)).filter fun t => isK b s 1 t && (sfL fs rs b s).contains t
end
theorem con_range {N t : Nat} {p : Nat → Bool} (ht : t < N) : ((List.range N).filter p).contains t = p t := by
  rw [contains_filter,List.contains_iff_mem.mpr (List.mem_range.mpr ht),Bool.true_and]
section
variable {fs rs : Nat} {b : List Nat} (Y : Good fs rs b) {s t : Nat} (hs : s < 2) (ht : t < fs * rs)
include Y hs
theorem en_eq : ownB b (1 - s) t = pEn b s t := by
  have hc := Y.lt t
  unfold ownB pEn occB
  generalize cell b t = c at hc
  rcases (two_ways hs) with rfl | rfl <;> (revert c; decide)
include ht
theorem he_eq : strongB fs rs b s t = (heL fs rs b s).contains t := by
  unfold heL
  rw [con_range ht]
  unfold strongB
  rw [by_eq Y one_lt (by decide) ht,tw_eq Y one_lt ht,tw_eq Y hs ht]
  refine congrArg (_ || ·) (congrArg (_ && ·) ?_)
  rw [Bool.eq_iff_iff,Bool.not_eq_true',blt_decide,blt_decide,decide_eq_false_iff_not,decide_eq_true_eq]
  exact Nat.not_lt.trans Nat.lt_succ_iff.symm
theorem we_eq : weakB fs rs b s t = (weL fs rs b s).contains t := by
  unfold weL enL
  rw [contains_filter,con_range ht]
  unfold weakB
  rw [he_eq Y hs ht,en_eq Y hs,by0_eq Y hs ht,Bool.and_assoc]; rfl
theorem of_eq : offB b s t = (ofL fs rs b s).contains t := by
  unfold ofL enL
  rw [contains_filter,con_range ht,off_eq Y hs]
  unfold pEn; rw [Bool.and_assoc]
theorem ha_eq : hangB fs rs b s t = (haL fs rs b s).contains t := by
  unfold haL
  rw [contains_filter,← we_eq Y hs ht]
  unfold hangB
  rw [by0_eq Y one_lt ht,of_eq Y hs ht,tw_eq Y hs ht,Bool.not_not]; rfl
theorem le_eq : lessB fs rs b s t = (leL fs rs b s).contains t := by
  unfold leL
  rw [contains_filter,← we_eq Y hs ht,← of_eq Y hs ht,← he_eq Y hs ht]
  unfold lessB
  rw [by_eq Y hs (by decide) ht,by_eq Y hs (by decide) ht]
  show _ = ((enL fs rs b s).contains t && ((weakB fs rs b s t || (offB b s t && strongB fs rs b s t)) && _))
  unfold enL
  rw [con_range ht,← en_eq Y hs]
  unfold weakB offB inBy
  cases ownB b (1 - s) t <;> simp
theorem ti_eq : restB fs rs b s t = (tiL fs rs b s).contains t := by
  unfold tiL
  rw [con_range ht,← he_eq Y hs ht]
  unfold restB
  rw [by0_eq Y hs ht,by0_eq Y one_lt ht]
  unfold cntL
  cases Nat.beq ((allR fs rs b s (ownL fs rs b s)).count t) 0 <;> cases Nat.beq ((allR fs rs b (1 - s) (ownL fs rs b (1 - s))).count t) 0 <;> cases strongB fs rs b s t <;> rfl
theorem sf_eq : safeB fs rs b s t = (sfL fs rs b s).contains t := by
  unfold sfL
  rw [con_range ht]
  unfold safeB
  rw [by0_eq Y hs ht,by0_eq Y one_lt ht,Bool.not_not]; rfl
theorem go_eq {hd : Bool} : pushB fs rs b (hd && Nat.ble 5 rs) s t = (goL fs rs b hd s).contains t := by
  unfold goL
  rw [contains_filter,← sf_eq Y hs ht,← push_eq Y hs ht]
  unfold pushB
  rw [by_eq Y one_lt (by decide) ht]
  unfold inBy
  rw [Bool.and_assoc]
  exact congrArg (_ && ·) (Bool.and_comm ..)
theorem pa_eq : (isK b s 1 t && safeB fs rs b s t) = (paL fs rs b s).contains t := by
  unfold paL
  rw [con_range ht,sf_eq Y hs ht]
end
theorem fl_fil {fs rs : Nat} {q p : Nat → Bool} {A : List Nat} (hA : ∃ r,A = (List.range (fs * rs)).filter r) (h : ∀ t,t < fs * rs → q t = (A.contains t && p t)) : fl fs rs q = A.filter p := by
  obtain ⟨r,rfl⟩ := hA
  unfold fl
  rw [List.filter_filter]
  refine List.filter_congr fun t ht => ?_
  have ht := List.mem_range.mp ht
  rw [h t ht,con_range ht,Bool.and_comm]
theorem fl_eq {fs rs : Nat} {q : Nat → Bool} {A : List Nat} (hA : ∃ r,A = (List.range (fs * rs)).filter r) (h : ∀ t,t < fs * rs → q t = A.contains t) : fl fs rs q = A := by
  obtain ⟨r,rfl⟩ := hA
  unfold fl
  refine List.filter_congr fun t ht => ?_
  have ht := List.mem_range.mp ht
  rw [h t ht,con_range ht]
theorem ran_fil {fs rs : Nat} {p : Nat → Bool} {A : List Nat} (hA : ∃ r,A = (List.range (fs * rs)).filter r) : ∃ r,A.filter p = (List.range (fs * rs)).filter r := by
  obtain ⟨r,rfl⟩ := hA
  exact ⟨_,List.filter_filter⟩
theorem sumT_split (b : List Nat) (T : Nat → Nat × Nat) (L : List Nat) : sumT b T L = (L.map fun t => (T (cell b t % 8)).2).sum * 65536 + (L.map fun t => (T (cell b t % 8)).1).sum := by
  unfold sumT scr
  induction L with
  | nil => rw [List.map_nil,List.map_nil,List.map_nil,List.sum_nil,Nat.zero_mul,Nat.add_zero]
  | cons t L ih =>
    rw [List.map_cons,List.sum_cons,ih,List.map_cons,List.sum_cons,List.map_cons,List.sum_cons,Nat.add_mul,Nat.add_assoc,Nat.add_assoc]
    congr 1
    exact Nat.add_left_comm ..
theorem fl_len {fs rs : Nat} {q : Nat → Bool} {A : List Nat} (nd : A.Nodup) (lt : ∀ t ∈ A,t < fs * rs) (h : ∀ t,t < fs * rs → q t = A.contains t) : (fl fs rs q).length = A.length := by
  rw [← len_filter nd lt]
  unfold fl
  exact congrArg List.length (List.filter_congr fun t ht => h t (List.mem_range.mp ht))
section
variable {fs rs : Nat} {b : List Nat} (Y : Good fs rs b) {s : Nat} (hs : s < 2)
theorem ran_en : ∃ r,enL fs rs b s = (List.range (fs * rs)).filter r := ⟨_,rfl⟩
theorem ran_we : ∃ r,weL fs rs b s = (List.range (fs * rs)).filter r := ran_fil ran_en
theorem ran_ha : ∃ r,haL fs rs b s = (List.range (fs * rs)).filter r := ran_fil ran_we
theorem ran_le : ∃ r,leL fs rs b s = (List.range (fs * rs)).filter r := ran_fil ran_en
include Y hs
theorem th_eq {hd : Bool} {J K : List Nat} (ndJ : J.Nodup) (ndK : K.Nodup) (ltJ : ∀ t ∈ J,t < fs * rs) (ltK : ∀ t ∈ K,t < fs * rs) (h1 : ∀ t,t < fs * rs → q1B fs rs b s t = J.contains t) (h2 : ∀ t,t < fs * rs → q2B fs rs b s t = K.contains t) :
    thN fs rs b (hd && Nat.ble 5 rs) s = ((leL fs rs b s).map fun t => (minorT (cell b t % 8)).2).sum * 65536 + ((leL fs rs b s).map fun t => (minorT (cell b t % 8)).1).sum
      + ((((weL fs rs b s).filter fun t => inBy fs rs b s 4 t).map fun t => (rookT (cell b t % 8)).2).sum * 65536 + (((weL fs rs b s).filter fun t => inBy fs rs b s 4 t).map fun t => (rookT (cell b t % 8)).1).sum)
      + (match ((weL fs rs b s).filter fun t => inBy fs rs b s 6 t).isEmpty with | true => 0 | false => scr (24,89))
      + scr (69,36) * (haL fs rs b s).length + scr (14,0) * ((weL fs rs b s).filter fun t => inBy fs rs b (1 - s) 5 t).length + scr (7,7) * (tiL fs rs b s).length
      + scr (173,94) * (hitL fs rs b s (paL fs rs b s)).length + scr (48,39) * (hitL fs rs b s (goL fs rs b hd s)).length
      + scr (16,11) * J.length * (match Nat.beq ((List.range (fs * rs)).filter fun t => Nat.beq (cell b t % 8) 5).length 1 with | true => 2 | false => 1)
      + scr (60,18) * K.length * (match Nat.beq ((List.range (fs * rs)).filter fun t => Nat.beq (cell b t % 8) 5).length 1 with | true => 2 | false => 1) := by
  have e1 := fl_eq (q := lessB fs rs b s) (ran_le (s := s)) fun t ht => le_eq Y hs ht
  have w : ∀ k z : Nat,z < 2 → 1 ≤ k ∧ k < 7 → fl fs rs (fun t => weakB fs rs b s t && byA fs rs b z k t) = (weL fs rs b s).filter fun t => inBy fs rs b z k t := fun k z hz hk =>
    fl_fil ran_we fun t ht => by rw [we_eq Y hs ht,by_eq Y hz hk ht]; rfl
  have e5 := fl_eq (q := hangB fs rs b s) ran_ha fun t ht => ha_eq Y hs ht
  have e6 := fl_eq (q := restB fs rs b s) ⟨_,rfl⟩ fun t ht => ti_eq Y hs ht
  have e7 := fl_eq (q := hitsB fs rs b s fun t => isK b s 1 t && safeB fs rs b s t) ⟨_,rfl⟩ fun t ht => hit_eq Y hs ht (fun t ht => List.mem_range.mp (List.mem_filter.mp ht).1) fun q hq => pa_eq Y hs hq
  have e8 := fl_eq (q := hitsB fs rs b s (pushB fs rs b (hd && Nat.ble 5 rs) s)) ⟨_,rfl⟩ fun t ht => hit_eq Y hs ht (fun t ht => List.mem_range.mp (List.mem_filter.mp (List.contains_iff_mem.mp (Bool.and_eq_true_iff.mp (List.mem_filter.mp ht).2).1)).1) fun q hq => go_eq Y hs hq
  have e9 : fl fs rs (kindB b 5) = (List.range (fs * rs)).filter fun t => Nat.beq (cell b t % 8) 5 := by
    refine List.filter_congr fun t _ => ?_
    show (!Nat.beq (cell b t) 0 && Nat.beq (cell b t % 8) 5) = _
    cases h : Nat.beq (cell b t % 8) 5 with
    | false => rw [Bool.and_false]
    | true =>
      rw [Bool.and_true,Bool.not_eq_true',beq_ff]
      intro z; rw [z] at h; exact ff h
  unfold thN hitN qOne
  rw [e1,w 4 s hs (by decide),w 6 s hs (by decide),w 5 (1 - s) one_lt (by decide),e5,e6,e7,e8,fl_len ndJ ltJ h1,fl_len ndK ltK h2,e9,sumT_split,sumT_split]
  rfl
end
noncomputable def mgI (A R : Nat) (k : Int) (H B T W X J K : Nat) (q : Int) : Int := (A : Int) + (R : Int) + Int.ofNat 24 * k + Int.ofNat 69 * (H : Int) + Int.ofNat 14 * (B : Int) + Int.ofNat 7 * (T : Int) + Int.ofNat 173 * (W : Int) + (Int.ofNat 48 * (X : Int) + (Int.ofNat 16 * (J : Int) + Int.ofNat 60 * (K : Int)) * q)
noncomputable def egI (A R : Nat) (k : Int) (H T W X J K : Nat) (q : Int) : Int := (A : Int) + (R : Int) + Int.ofNat 89 * k + Int.ofNat 36 * (H : Int) + Int.ofNat 7 * (T : Int) + Int.ofNat 94 * (W : Int) + (Int.ofNat 39 * (X : Int) + (Int.ofNat 11 * (J : Int) + Int.ofNat 18 * (K : Int)) * q)
theorem pair_add (a b c d M : Nat) : a * M + b + (c * M + d) = (a + c) * M + (b + d) := by rw [Nat.add_mul,Nat.add_add_add_comm]
theorem pair_mul (x y n M : Nat) : (x * M + y) * n = x * n * M + y * n := by rw [Nat.add_mul,Nat.mul_right_comm]
theorem tail_sum (a x j k q : Nat) : a + x + j * q + k * q = a + (x + (j + k) * q) := by rw [Nat.add_mul,Nat.add_assoc,Nat.add_assoc]
theorem score_nat (A1 A2 R1 R2 H B T W X J K k q M : Nat) :
    A2 * M + A1 + (R2 * M + R1) + (89 * k * M + 24 * k) + (36 * M + 69) * H + (0 * M + 14) * B + (7 * M + 7) * T + (94 * M + 173) * W + (39 * M + 48) * X + (11 * M + 16) * J * q + (18 * M + 60) * K * q
      = (A2 + R2 + 89 * k + 36 * H + 7 * T + 94 * W + (39 * X + (11 * J + 18 * K) * q)) * M + (A1 + R1 + 24 * k + 69 * H + 14 * B + 7 * T + 173 * W + (48 * X + (16 * J + 60 * K) * q)) := by
  rw [pair_mul,pair_mul,pair_mul,pair_mul,pair_mul,pair_mul,pair_mul,pair_mul,pair_mul,pair_add,pair_add,pair_add,pair_add,pair_add,pair_add,pair_add,pair_add,pair_add,Nat.zero_mul,Nat.add_zero,tail_sum,tail_sum]
theorem score_arith (A1 A2 R1 R2 H B T W X J K : Nat) (e o : Bool) :
    ((A2 * 65536 + A1 + (R2 * 65536 + R1) + (match e with | true => 0 | false => scr (24,89)) + scr (69,36) * H + scr (14,0) * B + scr (7,7) * T + scr (173,94) * W + scr (48,39) * X + scr (16,11) * J * (match o with | true => 2 | false => 1) + scr (60,18) * K * (match o with | true => 2 | false => 1) : Nat) : Int)
      = egI A2 R2 (bif e then Int.ofNat 0 else Int.ofNat 1) H T W X J K (bif o then Int.ofNat 2 else Int.ofNat 1) * Int.ofNat 65536 + mgI A1 R1 (bif e then Int.ofNat 0 else Int.ofNat 1) H B T W X J K (bif o then Int.ofNat 2 else Int.ofNat 1) := by
  have key : ∀ k q : Nat,((A2 * 65536 + A1 + (R2 * 65536 + R1) + (89 * k * 65536 + 24 * k) + (36 * 65536 + 69) * H + (0 * 65536 + 14) * B + (7 * 65536 + 7) * T + (94 * 65536 + 173) * W + (39 * 65536 + 48) * X + (11 * 65536 + 16) * J * q + (18 * 65536 + 60) * K * q : Nat) : Int) = egI A2 R2 (Int.ofNat k) H T W X J K (Int.ofNat q) * Int.ofNat 65536 + mgI A1 R1 (Int.ofNat k) H B T W X J K (Int.ofNat q) := fun k q => by
    rw [score_nat,Int.natCast_add,Int.natCast_mul]; rfl
  cases e with
  | true => cases o with
    | true => exact key 0 2
    | false => exact key 0 1
  | false => cases o with
    | true => exact key 1 2
    | false => exact key 1 1
theorem th_sc {fs rs : Nat} {b : List Nat} (Y : Good fs rs b) {s : Nat} (hs : s < 2) {hd : Bool} {J K : List Nat} (ndJ : J.Nodup) (ndK : K.Nodup) (ltJ : ∀ t ∈ J,t < fs * rs) (ltK : ∀ t ∈ K,t < fs * rs) (h1 : ∀ t,t < fs * rs → q1B fs rs b s t = J.contains t) (h2 : ∀ t,t < fs * rs → q2B fs rs b s t = K.contains t) :
    ((thN fs rs b (hd && Nat.ble 5 rs) s : Nat) : Int) = (egI ((leL fs rs b s).map fun t => (minorT (cell b t % 8)).2).sum (((weL fs rs b s).filter fun t => inBy fs rs b s 4 t).map fun t => (rookT (cell b t % 8)).2).sum (bif ((weL fs rs b s).filter fun t => inBy fs rs b s 6 t).isEmpty then Int.ofNat 0 else Int.ofNat 1) (haL fs rs b s).length (tiL fs rs b s).length (hitL fs rs b s (paL fs rs b s)).length (hitL fs rs b s (goL fs rs b hd s)).length J.length K.length (bif Nat.beq ((List.range (fs * rs)).filter fun t => Nat.beq (cell b t % 8) 5).length 1 then Int.ofNat 2 else Int.ofNat 1)) * Int.ofNat 65536 + (mgI ((leL fs rs b s).map fun t => (minorT (cell b t % 8)).1).sum (((weL fs rs b s).filter fun t => inBy fs rs b s 4 t).map fun t => (rookT (cell b t % 8)).1).sum (bif ((weL fs rs b s).filter fun t => inBy fs rs b s 6 t).isEmpty then Int.ofNat 0 else Int.ofNat 1) (haL fs rs b s).length ((weL fs rs b s).filter fun t => inBy fs rs b (1 - s) 5 t).length (tiL fs rs b s).length (hitL fs rs b s (paL fs rs b s)).length (hitL fs rs b s (goL fs rs b hd s)).length J.length K.length (bif Nat.beq ((List.range (fs * rs)).filter fun t => Nat.beq (cell b t % 8) 5).length 1 then Int.ofNat 2 else Int.ofNat 1)) := by
  rw [th_eq Y hs ndJ ndK ltJ ltK h1 h2]; exact score_arith _ _ _ _ _ _ _ _ _ _ _ _ _
theorem slot_eq {P : Par} {F : Call} {ss : MSs} {h : H} {Q : Fl → Sig → H → Prop} (S1 S2 : Sig) {x : Int} (y : Int) (e : x = y) (w : wSs P F ss (S1 ++ some (.int y) :: S2) h Q) : wSs P F ss (S1 ++ some (.int x) :: S2) h Q := e ▸ w
theorem compG' {P : Par} {F : Call} {ifs : ME} {ok : H → Bool} {σ : Sig} (p : Nat → Bool) (L : List Nat) (h : H) (hok : ∀ h',h <+: h' → ok h' = true) (t : ∀ x ∈ L,∀ h',h <+: h' → ∀ Q : V → H → Prop,(∀ v h2,truthy P.C h2 v = some (p x) → h' <+: h2 → Q v h2) → wE P F ifs (some (vN x) :: σ) h' Q) :
    ∃ h2,compL (compG (fun x h => evT P F (.cons ifs .nil) (some x :: σ) h) (fun x h => ev P F (.var 0) (some x :: σ) h)) ok (L.map vN) h = some ((L.filter p).map vN,h2) ∧ h <+: h2 := by
  induction L generalizing h with
  | nil => exact ⟨h,if_pos (hok h (List.prefix_refl _)),List.prefix_refl _⟩
  | cons x r ih =>
    have w : wT P F (.cons ifs .nil) (some (vN x) :: σ) h fun c h1 => h <+: h1 ∧ c = p x :=
      t x List.mem_cons_self h (List.prefix_refl _) _ fun v h2 e q => wTruth_of e (fun z => ⟨q,z.symm⟩) (fun z => ⟨q,z.symm⟩)
    obtain ⟨c,h1,e1,q1,rfl⟩ := wT_sound _ w
    obtain ⟨h2,e3,q2⟩ := ih h1 (fun h' q => hok h' (q1.trans q)) fun y hy h' q => t y (List.mem_cons_of_mem _ hy) h' (q1.trans q)
    refine ⟨h2,?_,q1.trans q2⟩
    refine (if_pos (hok h (List.prefix_refl _))).trans ?_
    cases hp : p x with
    | true => rw [hp] at e1; exact bo_mk (bo_mk e1 rfl) (bo_mk e3 (by rw [List.filter_cons_of_pos hp]; rfl))
    | false => rw [hp] at e1; exact bo_mk (bo_mk e1 rfl) (bo_mk e3 (by rw [List.filter_cons_of_neg (by rw [hp]; decide)]; rfl))
theorem in_tup {C : Nat → Option O} {h : H} {a : Nat} {x : Int} {t : Nat} (L : List Nat) (hx : x = t) (e : h[a]? = some (.tup (L.map vN))) : cmpV C h .In (.int x) (.ref a) = some (L.contains t) := by
  subst hx
  refine bS_t (X := h[a]?) e ?_
  rw [ints_sq,Option.map_some,contains_cast]
theorem neq_int {x k : Nat} : ((x : Int) != (k : Int)) = !Nat.beq x k := by
  rw [Bool.eq_iff_iff,bne_iff_ne,Bool.not_eq_true',beq_ff,Ne,Int.ofNat_inj]
theorem neq_mk {N : Nat} {p q : Nat → Bool} (e : ∀ t,t < N → p t = q t) : (mk N p != mk N q) = false := by rw [mk_congr e]; exact bne_self_eq_false' ..
theorem lt_f {N : Nat} {p : Nat → Bool} : ∀ t ∈ (List.range N).filter p,t < N := fun _ ht => List.mem_range.mp (List.mem_filter.mp ht).1
theorem lt_ff {N : Nat} {L : List Nat} {p : Nat → Bool} (h : ∀ t ∈ L,t < N) : ∀ t ∈ L.filter p,t < N := fun t ht => h t (List.mem_filter.mp ht).1
theorem go_lt {fs rs : Nat} {b : List Nat} {hd : Bool} {s : Nat} : ∀ t ∈ goL fs rs b hd s,t < fs * rs := fun t ht => lt_f t (List.contains_iff_mem.mp (Bool.and_eq_true_iff.mp (List.mem_filter.mp ht).2).1)
theorem tup_ne {C : Nat → Option O} {h : H} {a c : Nat} {x y x' y' : Int} (ea : h[a]? = some (.tup [.int x,.int y])) (ec : h[c]? = some (.tup [.int x',.int y'])) (e1 : x = x') (e2 : y = y') : cmpV C h .NotEq (.ref a) (.ref c) = some false := by
  subst e1 e2
  have e : ([x,y] != [x,y]) = false := by rw [Bool.eq_false_iff,Ne,bne_iff_ne]; exact fun z => z rfl
  exact bT_mk (X := h[a]?) ea (bT_mk (X := h[c]?) ec (congrArg some e))
theorem pre_hide {P : Par} {F : Call} {ss : MSs} {σ : Sig} {h h2 : H} {Q : Fl → Sig → H → Prop} (w : ∀ h2,h <+: h2 → wSs P F ss σ h2 Q) (p : h <+: h2) : wSs P F ss σ h2 Q := w h2 p
theorem ite_comp {P : Par} {F : Call} {j a : Nat} {test : ME} {x y : Int} {σ : Sig} {h : H} {Q : V → H → Prop} {L : List Nat} (p : Nat → Bool) (ej : σ[j]? = some (some (.ref a))) (ea : h[a]? = some (.lst (L.map vN))) (hl : L.length ≤ 1000) (t : ∀ x ∈ L,Tst P F test (some (vN x) :: σ) h (p x)) (q : Q (.int (bif (L.filter p).isEmpty then y else x)) (h ++ [.lst ((L.filter p).map vN)])) : wE P F (.ite (.comp (.var 0) (.val (.var j)) (.cons test .nil)) (.const (.int x)) (.const (.int y))) σ h Q := by
  have hlen : ((L.filter p).map vN).length ≤ lenMax := by rw [List.length_map]; exact Nat.le_trans (List.length_filter_le _ _) (Nat.le_trans hl (by decide))
  refine ⟨_,ej,_,_,ea,rfl,_,_,compF p (stable_of (v := .ref a) ea) t,hlen,wTruth_of (c := !(L.filter p).isEmpty) ?_ (fun z => ?_) (fun z => ?_)⟩
  · exact bL_mk (last_get _ _) ((if_pos hlen).trans (by rw [List.isEmpty_map]))
  · rw [show (L.filter p).isEmpty = false by simpa using z] at q; exact q
  · rw [show (L.filter p).isEmpty = true by simpa using z] at q; exact q
theorem rng_items {N : Nat} (hN : N ≤ 1000) : itemsOf (.rng 0 ((N : Nat) : Int) 1) = some ((List.range N).map vN) := by
  show (if rangeOk 0 ((N : Nat) : Int) 1 = true then some ((rangeList 0 ((N : Nat) : Int) 1).map V.int) else none) = _
  rw [if_pos (rangeOk_of ⟨by decide,Nat.le_trans hN (by decide)⟩),range_zero rfl]
theorem ite_len {P : Par} {F : Call} {j a N : Nat} {test : ME} {x y : Int} {σ : Sig} {h : H} {Q : V → H → Prop} (p : Nat → Bool) (ej : σ[j]? = some (some (.ref a))) (ea : h[a]? = some (.rng 0 ((N : Nat) : Int) 1)) (hN : N ≤ 1000) (t : ∀ x,x < N → Tst P F test (some (vN x) :: σ) h (p x)) (q : Q (.int (bif Nat.beq ((List.range N).filter p).length 1 then x else y)) (h ++ [.lst (((List.range N).filter p).map vN)])) : wE P F (.ite (.cmp .Eq (.bi 0 (.cons (.comp (.var 0) (.val (.var j)) (.cons test .nil)) .nil)) (.const (.int (.ofNat 1)))) (.const (.int x)) (.const (.int y))) σ h Q := by
  have hl : ((List.range N).filter p).length ≤ 1000 := Nat.le_trans (List.length_filter_le _ _) (by rw [List.length_range]; exact hN)
  refine ⟨_,ej,_,_,ea,rng_items hN,_,_,compF p (stable_of (v := .ref a) ea) (fun x hx => t x (List.mem_range.mp hx)),by rw [List.length_map]; exact Nat.le_trans hl (by decide),_,_,len_ok (v := .ref _) (last_get h _) hl,fun z => ?_,fun z => ?_⟩
  · have z : (((((List.range N).filter p).length : Nat) : Int) == Int.ofNat 1) = true := z
    rw [eq_int] at z; rw [z] at q; exact q
  · have z : (((((List.range N).filter p).length : Nat) : Int) == Int.ofNat 1) = false := z
    rw [eq_int] at z; rw [z] at q; exact q
theorem ite_ltlen {P : Par} {F : Call} {j k a N m : Nat} {test : ME} {bd : V} {σ : Sig} {h : H} {Q : Fl → Sig → H → Prop} {A B : MSs} (p : Nat → Bool) (ej : σ[j]? = some (some (.ref a))) (ek : σ[k]? = some (some bd)) (ea : h[a]? = some (.rng 0 ((N : Nat) : Int) 1)) (hN : N ≤ 1000)
    (t : ∀ x,x < N → ∀ h',h <+: h' → ∀ Q : V → H → Prop,(∀ v h2,truthy P.C h2 v = some (p x) → h' <+: h2 → Q v h2) → wE P F test (some (vN x) :: σ) h' Q)
    (hb : ∀ h',h <+: h' → biV P.C 0 [bd] h' = some (.int ((m : Nat) : Int),h'))
    (q : ∀ h2,h <+: h2 → TruQ (decide (Int.ofNat 16 * ((((List.range N).filter p).length : Nat) : Int) < Int.ofNat 3 * ((m : Nat) : Int))) (wSs P F A σ h2 Q) (wSs P F B σ h2 Q)) :
    wS P F (.ite (.cmp .Lt (.bin .Mult (.const (.int (.ofNat 16))) (.bi 0 (.cons (.comp (.var 0) (.val (.var j)) (.cons test .nil)) .nil))) (.bin .Mult (.const (.int (.ofNat 3))) (.bi 0 (.cons (.var k) .nil)))) A B) σ h Q := by
  have hl : ((List.range N).filter p).length ≤ 1000 := Nat.le_trans (List.length_filter_le _ _) (by rw [List.length_range]; exact hN)
  obtain ⟨h2,c,p2⟩ := compG' (P := P) (F := F) (ifs := test) (ok := fun h => stable P.C (.ref a) (.rng 0 ((N : Nat) : Int) 1) h) (σ := σ) p (List.range N) h (fun h' q => stable_of (v := .ref a) (get_pre q ea)) fun x hx => t x (List.mem_range.mp hx)
  have p3 := p2.trans (List.prefix_append h2 [O.lst (((List.range N).filter p).map vN)])
  exact ⟨_,ej,_,_,ea,rng_items hN,_,_,c,by rw [List.length_map]; exact Nat.le_trans hl (by decide),_,_,len_ok (v := .ref _) (last_get h2 _) hl,_,mul_ok rfl,_,ek,_,_,hb _ p3,_,mul_ok rfl,q _ p3⟩
theorem push_len60 {fs rs : Nat} {b : List Nat} (Y : Good fs rs b) (hd : Bool) {s : Nat} : (pushL fs rs b hd s).length ≤ 60 := by
  have key : ∀ K : List Nat,(K.flatMap (pushAt fs rs b hd s)).length ≤ 2 * K.length := by
    intro K
    induction K with
    | nil => exact Nat.le_refl _
    | cons t K ih =>
      rw [List.flatMap_cons,List.length_append,List.length_cons]
      have : (pushAt fs rs b hd s t).length ≤ 2 := by
        unfold pushAt
        cases isK b s 1 t && Nat.beq (cell b (fwd fs s t)) 0 with
        | true => cases leapB fs rs b hd s t; exact (show 1 ≤ 2 by decide); exact (show 2 ≤ 2 by decide)
        | false => exact Nat.zero_le _
      exact Nat.add_comm .. ▸ Nat.add_le_add ih this
  have := key (List.range (fs * rs))
  rw [List.length_range] at this
  exact Nat.le_trans this (Nat.mul_le_mul_left 2 Y.dim.size.2)
theorem push_len {fs rs : Nat} {b : List Nat} (Y : Good fs rs b) (hd : Bool) {s : Nat} : (pushL fs rs b hd s).length ≤ 1000 := Nat.le_trans (push_len60 Y hd) (by decide)
noncomputable def L77 (fs rs : Nat) (b : List Nat) (hd : Bool) (s : Nat) : H := [.rng 0 ((fs * rs : Nat) : Int) 1,.lst ((enL fs rs b s).map vN),.lst ((ofL fs rs b s).map vN),.lst ((heL fs rs b s).map vN),.lst ((weL fs rs b s).map vN),.lst ((haL fs rs b s).map vN),
  .lst ((leL fs rs b s).map vN),.lst ((tiL fs rs b s).map vN),.lst ((sfL fs rs b s).map vN),.lst ((pushL fs rs b hd s).map vN),.lst ((goL fs rs b hd s).map vN),.lst ((paL fs rs b s).map vN)]
section
variable {P : Par} {F : Call} {i j aj k : Nat} {test : ME} {ss : MSs} {σ : Sig} {h : H} {Q : KS} {M : List Nat}
theorem comp_x {L : List Nat} (A B : H) (p : Nat → Bool) (hk : A.length = k) (hB : A ++ [.lst (M.map vN)] = B) (hM : L.filter p = M) (ej : σ[j]? = some (some (.ref (h.length + aj)))) (ea : A[aj]? = some (.lst (L.map vN))) (hl : L.length ≤ 1000)
    (t : ∀ x ∈ L,Tst P F test (some (vN x) :: σ) (h ++ A) (p x)) (hi : Nat.blt i σ.length = true) (w : wSs P F ss (σ.set i (some (.ref (h.length + k)))) (h ++ B) Q) : wSs P F (.cons (.assign i (.comp (.var 0) (.val (.var j)) (.cons test .nil))) ss) σ (h ++ A) Q := by
  subst hk hB hM
  rw [← List.append_assoc,← List.length_append] at w
  exact ⟨_,ej,_,_,(app_at h A aj).trans ea,rfl,_,_,compF p (stable_of (v := .ref _) ((app_at h A aj).trans ea)) t,by rw [List.length_map]; exact Nat.le_trans (List.length_filter_le _ _) (Nat.le_trans hl (by decide)),hi,w⟩
theorem comp_xr {N : Nat} (A B : H) (p : Nat → Bool) (hk : A.length = k) (hB : A ++ [.lst (M.map vN)] = B) (hM : (List.range N).filter p = M) (ej : σ[j]? = some (some (.ref (h.length + aj)))) (ea : A[aj]? = some (.rng 0 ((N : Nat) : Int) 1)) (hN : N ≤ 1000)
    (t : ∀ x,x < N → Tst P F test (some (vN x) :: σ) (h ++ A) (p x)) (hi : Nat.blt i σ.length = true) (w : wSs P F ss (σ.set i (some (.ref (h.length + k)))) (h ++ B) Q) : wSs P F (.cons (.assign i (.comp (.var 0) (.val (.var j)) (.cons test .nil))) ss) σ (h ++ A) Q := by
  subst hk hB hM
  rw [← List.append_assoc,← List.length_append] at w
  exact ⟨_,ej,_,_,(app_at h A aj).trans ea,rng_items hN,_,_,compF p (stable_of (v := .ref _) ((app_at h A aj).trans ea)) fun x hx => t x (List.mem_range.mp hx),by rw [List.length_map]; exact Nat.le_trans (List.length_filter_le _ _) (by rw [List.length_range]; exact Nat.le_trans hN (by decide)),hi,w⟩
end
section
variable {sa : Nat} {zs : List Int} {n : Nat} {h : H} {fs rs : Nat} {b : List Nat} (Y : Good fs rs b)
include Y
theorem t77 (hn : 77 < n) {bd pos maps own foe bo bf : V} {s so to_ sf tf : Nat} {SO TO SF TF : List Nat} {hd : Bool} (hs : s < 2) (eb : SqL (P0 sa zs).C h bd b) (Z : PosAt (P0 sa zs).C h pos fs rs hd b) (M : MapsAt (P0 sa zs).C h maps fs rs b)
    (LO : Lk (P0 sa zs).C h own bo so to_ SO TO fs rs b s) (LF : Lk (P0 sa zs).C h foe bf sf tf SF TF fs rs b (1 - s)) :
    Meets (P0 sa zs) n 77 [.int fs,.int rs,.bool hd,bd,pos,maps,.int s,own,foe] h fun v h' => v = .bool true ∧ h <+: h' := by
  have D := Y.dim
  have hN := D.size.2
  have hlen : biV (P0 sa zs).C 0 [bd] h = some (V.int ((fs * rs : Nat) : Int),h) := by rw [len_ok eb (len_le Y),Y.len]
  have hN1 : fs * rs ≤ 1000 := Nat.le_trans hN (by decide)
  have cel := fun {h' : H} (eb : SqL (P0 sa zs).C h' bd b) (u : Nat) (hu : u < fs * rs) => (sq_at eb rfl (by rw [Y.len]; exact hu) (big hu hN) : getSub (P0 sa zs).C h' bd (.int (u : Int)) = some (vN (cell b u)))
  have dv : ∀ t,binInt .FloorDiv (cell b t : Int) (Int.ofNat 8) = some ((cell b t / 8 : Nat) : Int) := fun t => div_ok rfl rfl (by decide) (by decide)
  have md : ∀ t,binInt .Mod (cell b t : Int) (Int.ofNat 8) = some ((cell b t % 8 : Nat) : Int) := fun t => mod_ok rfl rfl (by decide)
  have l30 : ∀ p : Nat → Bool,((List.range (fs * rs)).filter p).length ≤ 1000 := fun p => by
    refine Nat.le_trans (List.length_filter_le _ _) ?_; rw [List.length_range]; exact hN1
  have pA := fun k => List.prefix_append h ((L77 fs rs b hd s).take k)
  have ebA := fun k => obj_pre (pA k) eb
  have LOA := fun k => LO.mono (pA k)
  have LFA := fun k => LF.mono (pA k)
  refine call_wp m77 hn ⟨rfl,_,rfl,_,_,hlen,_,rfl,rangeOk_of ⟨by decide,Nat.le_trans hN (by decide)⟩,rfl,_,rfl,_,sub_pre (List.prefix_append _ _) LO.o2,rfl,_,rfl,_,sub_pre (List.prefix_append _ _) LO.o3,rfl,?_⟩
  refine heap_eq (h2 := h ++ (L77 fs rs b hd s).take 1) rfl ?_
  refine sig_eq (σ := [_,_,_,_,_,_,_,_,_,some (.ref (h.length + 0)),_,_,_,_,_,_,_,_,_,_,_,_,_,_,_,_,_,_,_,_,_,_,_,_,_,_,_]) rfl ?_
  refine comp_xr ((L77 fs rs b hd s).take 1) ((L77 fs rs b hd s).take 2) (pEn b s) rfl rfl rfl rfl rfl hN1 (fun t ht => tst_and (fun Q c => ⟨_,rfl,_,rfl,_,cel (ebA 1) t ht,c _ tst_int⟩) fun _ Q c => ⟨_,rfl,_,rfl,_,cel (ebA 1) t ht,_,dv t,_,rfl,c _ (congrArg some neq_int)⟩) rfl ?_
  refine sig_eq (σ := [_,_,_,_,_,_,_,_,_,_,_,_,_,_,_,_,_,_,_,_,_,_,_,_,_,_,_,_,_,_,_,_,_,_,_,_,_]) rfl ?_
  refine comp_x ((L77 fs rs b hd s).take 2) ((L77 fs rs b hd s).take 3) (fun t => Nat.blt 1 (cell b t % 8)) rfl rfl rfl rfl rfl (l30 _) (fun t ht => fun Q c => ⟨_,rfl,_,rfl,_,cel (ebA 2) t (List.mem_range.mp (List.mem_filter.mp ht).1),_,md t,c _ (congrArg some gt_int)⟩) rfl ?_
  refine sig_eq (σ := [_,_,_,_,_,_,_,_,_,_,_,_,_,_,_,_,_,_,_,_,_,_,_,_,_,_,_,_,_,_,_,_,_,_,_,_,_]) rfl ?_
  refine comp_xr ((L77 fs rs b hd s).take 3) ((L77 fs rs b hd s).take 4) (fun t => inBy fs rs b (1 - s) 1 t || (Nat.blt 1 (cntL fs rs b (1 - s) t) && Nat.blt (cntL fs rs b s t) 2)) rfl rfl rfl rfl rfl hN1 (fun t ht => tst_or (tst_inby (LFA 3) rfl rfl (by decide)) fun _ => tst_and (tst_tmgt (LFA 3) ht hN1 rfl rfl) fun _ => tst_tmvlt (LOA 3) ht hN1 rfl rfl) rfl ?_
  refine sig_eq (σ := [_,_,_,_,_,_,_,_,_,_,_,_,_,_,_,_,_,_,_,_,_,_,_,_,_,_,_,_,_,_,_,_,_,_,_,_,_]) rfl ?_
  refine comp_x ((L77 fs rs b hd s).take 4) ((L77 fs rs b hd s).take 5) (fun t => !(heL fs rs b s).contains t && !Nat.beq (cntL fs rs b s t) 0) rfl rfl rfl rfl rfl (l30 _) (fun t ht => tst_and (tst_nref (app_at h ((L77 fs rs b hd s).take 4) 3) rfl rfl) fun _ => tst_tmv (LOA 4) (List.mem_range.mp (List.mem_filter.mp ht).1) hN1 rfl rfl) rfl ?_
  refine sig_eq (σ := [_,_,_,_,_,_,_,_,_,_,_,_,_,_,_,_,_,_,_,_,_,_,_,_,_,_,_,_,_,_,_,_,_,_,_,_,_]) rfl ?_
  refine comp_x ((L77 fs rs b hd s).take 5) ((L77 fs rs b hd s).take 6) (fun t => Nat.beq (cntL fs rs b (1 - s) t) 0 || ((ofL fs rs b s).contains t && Nat.blt 1 (cntL fs rs b s t))) rfl rfl rfl rfl rfl (Nat.le_trans (List.length_filter_le _ _) (l30 _)) (fun t ht => tst_or (tst_tm0 (LFA 5) (List.mem_range.mp (List.mem_filter.mp (List.mem_filter.mp ht).1).1) hN1 rfl rfl) fun _ => tst_and (tst_ref (app_at h ((L77 fs rs b hd s).take 5) 2) rfl rfl) fun _ => tst_tmvgt (LOA 5) (List.mem_range.mp (List.mem_filter.mp (List.mem_filter.mp ht).1).1) hN1 rfl rfl) rfl ?_
  refine sig_eq (σ := [_,_,_,_,_,_,_,_,_,_,_,_,_,_,_,_,_,_,_,_,_,_,_,_,_,_,_,_,_,_,_,_,_,_,_,_,_]) rfl ?_
  refine comp_x ((L77 fs rs b hd s).take 6) ((L77 fs rs b hd s).take 7) (fun t => ((weL fs rs b s).contains t || ((ofL fs rs b s).contains t && (heL fs rs b s).contains t)) && (inBy fs rs b s 2 t || inBy fs rs b s 3 t)) rfl rfl rfl rfl rfl (l30 _) (fun t ht => tst_and (tst_or (tst_ref (app_at h ((L77 fs rs b hd s).take 6) 4) rfl rfl) fun _ => tst_and (tst_ref (app_at h ((L77 fs rs b hd s).take 6) 2) rfl rfl) fun _ => tst_ref (app_at h ((L77 fs rs b hd s).take 6) 3) rfl rfl) fun _ => tst_or (tst_inb (LOA 6) rfl rfl (by decide)) fun _ => tst_inb (LOA 6) rfl rfl (by decide)) rfl ?_
  refine sig_eq (σ := [_,_,_,_,_,_,_,_,_,_,_,_,_,_,_,_,_,_,_,_,_,_,_,_,_,_,_,_,_,_,_,_,_,_,_,_,_]) rfl ?_
  refine comp_xr ((L77 fs rs b hd s).take 7) ((L77 fs rs b hd s).take 8) (fun t => !Nat.beq (cntL fs rs b s t) 0 && (!Nat.beq (cntL fs rs b (1 - s) t) 0 && !(heL fs rs b s).contains t)) rfl rfl rfl rfl rfl hN1 (fun t ht => tst_and (tst_tmv (LOA 7) ht hN1 rfl rfl) fun _ => tst_and (tst_tmn (LFA 7) ht hN1 rfl rfl) fun _ => tst_nref (app_at h ((L77 fs rs b hd s).take 7) 3) rfl rfl) rfl ?_
  refine sig_eq (σ := [_,_,_,_,_,_,_,_,_,_,_,_,_,_,_,_,_,_,_,_,_,_,_,_,_,_,_,_,_,_,_,_,_,_,_,_,_]) rfl ?_
  refine comp_xr ((L77 fs rs b hd s).take 8) ((L77 fs rs b hd s).take 9) (fun t => Nat.beq (cntL fs rs b (1 - s) t) 0 || !Nat.beq (cntL fs rs b s t) 0) rfl rfl rfl rfl rfl hN1 (fun t ht => tst_or (tst_tm0 (LFA 8) ht hN1 rfl rfl) fun _ => tst_tmv (LOA 8) ht hN1 rfl rfl) rfl ?_
  refine sig_eq (σ := [_,_,_,_,_,_,_,_,_,_,_,_,_,_,_,_,_,_,_,_,_,_,_,_,_,_,_,_,_,_,_,_,_,_,_,_,_]) rfl ?_
  refine ⟨_,rfl,_,rfl,_,rfl,_,rfl,_,rfl,_,_,t72 (n := 77) Y (by decide) rfl rfl rfl hs (ebA 9),rfl,?_⟩
  refine heap_eq (h2 := h ++ (L77 fs rs b hd s).take 10) (List.append_assoc _ _ _) ?_
  refine sig_eq (σ := [_,_,_,_,_,_,_,_,_,_,_,_,_,_,_,_,_,_,_,_,some (.ref (h.length + 9)),_,_,_,_,_,_,_,_,_,_,_,_,_,_,_,_]) (by rw [← show (h ++ (L77 fs rs b hd s).take 9).length = h.length + 9 from List.length_append ..]; rfl) ?_
  refine comp_x ((L77 fs rs b hd s).take 10) ((L77 fs rs b hd s).take 11) (fun t => (sfL fs rs b s).contains t && !inBy fs rs b (1 - s) 1 t) rfl rfl rfl rfl rfl (push_len Y hd) (fun t ht => tst_and (tst_ref (app_at h ((L77 fs rs b hd s).take 10) 8) rfl rfl) fun _ => tst_notby (LFA 10) rfl rfl (by decide)) rfl ?_
  refine sig_eq (σ := [_,_,_,_,_,_,_,_,_,_,_,_,_,_,_,_,_,_,_,_,_,_,_,_,_,_,_,_,_,_,_,_,_,_,_,_,_]) rfl ?_
  refine comp_xr ((L77 fs rs b hd s).take 11) ((L77 fs rs b hd s).take 12) (fun t => isK b s 1 t && (sfL fs rs b s).contains t) rfl rfl rfl rfl rfl hN1 (fun t ht => tst_and (fun Q c => ⟨_,rfl,_,rfl,_,cel (ebA 11) t ht,_,rfl,_,mulr_ok rfl,c _ (congrArg some code_eq)⟩) fun _ => tst_ref (app_at h ((L77 fs rs b hd s).take 11) 8) rfl rfl) rfl ?_
  refine sig_eq (σ := [_,_,_,_,_,_,_,_,_,_,_,_,_,_,_,_,_,_,_,_,_,_,_,_,_,_,_,_,_,_,_,_,_,_,_,_,_]) rfl ?_
  refine heap_eq (h2 := h ++ L77 fs rs b hd s) rfl ?_
  clear ebA LOA LFA pA
  have p0 := List.prefix_append h (L77 fs rs b hd s)
  have g := fun (i : Nat) => app_at h (L77 fs rs b hd s) i
  obtain ⟨ah,f21,eH⟩ := LF.rows 1 (by decide)
  obtain ⟨v74,h22,c74,p22,a22,a23,u74,e22,e23⟩ := t74 (sa := sa) (zs := zs) (n := 77) (h := h ++ L77 fs rs b hd s) (B := byL fs rs b s (ownL fs rs b s)) Y (by decide) (x := fs) (y := rs) (z := s) rfl rfl rfl hs (obj_pre p0 eb) (sub_pre p0 LO.o0) (get_pre p0 LO.eS) (sub_pre p0 LF.o2) (sub_pre p0 f21) (get_pre p0 eH) (sub_pre p0 LO.o2) (LO.mono p0).rows (sub_pre p0 LO.o3) (get_pre p0 LO.eT) LO.lT (g 3)
  refine ⟨_,rfl,_,rfl,_,rfl,_,rfl,_,rfl,_,rfl,_,rfl,_,_,c74,_,_,u74,rfl,?_⟩
  refine sig_eq (σ := [_,_,_,_,_,_,_,_,_,_,_,_,_,_,_,_,_,_,_,_,_,_,_,_,_,_,_,_,_,_,_,_,_,_,_,_,_]) rfl ?_
  have q22 := p0.trans p22
  have Z22 := Z.mono q22
  have M22 := M.mono q22
  refine ite_tst (c := false) (tst_or (c := false) (d := false) (fun Q c => ⟨_,rfl,_,rfl,_,_,t47' M22 (by decide) rfl hs,_,rfl,_,_,t65 (v := .ref _) (by decide) (get_pre p22 (g 3)) lt_f D.le,c _ (congrArg some (neq_mk fun t ht => he_eq Y hs ht))⟩) fun _ => (fun Q c => ⟨_,rfl,_,rfl,_,rfl,_,_,t49 Z22 M22 (by decide) rfl hs,_,rfl,_,_,t65 (v := .ref _) (by decide) (get_pre p22 (g 4)) (lt_ff lt_f) D.le,c _ (congrArg some (neq_mk fun t ht => we_eq Y hs ht))⟩)) nofun fun _ => ?_
  refine ite_tst (c := false) (tst_or (c := false) (d := false) (fun Q c => ⟨_,rfl,_,rfl,_,rfl,_,_,t50 Z22 M22 (by decide) rfl hs,_,rfl,_,_,t65 (v := .ref _) (by decide) (get_pre p22 (g 5)) (lt_ff (lt_ff lt_f)) D.le,c _ (congrArg some (neq_mk fun t ht => ha_eq Y hs ht))⟩) fun _ => (fun Q c => ⟨_,rfl,_,rfl,_,rfl,_,_,t51 Z22 M22 (by decide) rfl hs,_,rfl,_,_,t65 (v := .ref _) (by decide) (get_pre p22 (g 6)) (lt_ff lt_f) D.le,c _ (congrArg some (neq_mk fun t ht => le_eq Y hs ht))⟩)) nofun fun _ => ?_
  refine ite_tst (c := false) (tst_or (c := false) (d := false) (fun Q c => ⟨_,rfl,_,rfl,_,_,t52 M22 (by decide) rfl hs,_,rfl,_,_,t65 (v := .ref _) (by decide) (get_pre p22 (g 7)) lt_f D.le,c _ (congrArg some (neq_mk fun t ht => ti_eq Y hs ht))⟩) fun _ => (fun Q c => ⟨_,rfl,_,rfl,_,rfl,_,_,t54 Z22 M22 (by decide) rfl hs,_,rfl,_,_,t65 (v := .ref _) (by decide) (get_pre p22 (g 8)) lt_f D.le,c _ (congrArg some (neq_mk fun t ht => sf_eq Y hs ht))⟩)) nofun fun _ => ?_
  refine ite_tst (c := false) (fun Q c => ⟨_,rfl,_,rfl,_,rfl,_,_,t55 Z22 Y M22 (by decide) rfl hs,_,rfl,_,_,t65 (v := .ref _) (by decide) (get_pre p22 (g 10)) go_lt D.le,c _ (congrArg some (neq_mk fun t ht => go_eq Y hs ht))⟩) nofun fun _ => ?_
  clear Z22 M22
  obtain ⟨v24,h24,c24,p24,a24,rfl,e24⟩ := t73 (sa := sa) (zs := zs) (n := 77) (h := h22) Y (by decide) (x := fs) (y := rs) (z := s) rfl rfl rfl hs (obj_pre q22 eb) (get_pre p22 (g 11)) lt_f (Nat.le_trans (List.length_filter_le _ _) (by rw [List.length_range]; exact Nat.le_trans hN (by decide)))
  refine ⟨_,rfl,_,rfl,_,rfl,_,rfl,_,rfl,_,_,c24,rfl,?_⟩
  refine sig_eq (σ := [_,_,_,_,_,_,_,_,_,_,_,_,_,_,_,_,_,_,_,_,_,_,_,_,_,_,_,_,_,_,_,_,_,_,_,_,_]) rfl ?_
  have p224 := p22.trans p24
  have q24 := q22.trans p24
  obtain ⟨v25,h25,c25,p25,a25,rfl,e25⟩ := t73 (sa := sa) (zs := zs) (n := 77) (h := h24) Y (by decide) (x := fs) (y := rs) (z := s) rfl rfl rfl hs (obj_pre q24 eb) (get_pre p224 (g 10)) go_lt (Nat.le_trans (List.length_filter_le _ _) (push_len60 Y hd))
  refine ⟨_,rfl,_,rfl,_,rfl,_,rfl,_,rfl,_,_,c25,rfl,?_⟩
  refine sig_eq (σ := [_,_,_,_,_,_,_,_,_,_,_,_,_,_,_,_,_,_,_,_,_,_,_,_,_,_,_,_,_,_,_,_,_,_,_,_,_]) rfl ?_
  have p225 := p224.trans p25
  have q25 := q24.trans p25
  have Z25 := Z.mono q25
  refine ite_tst (c := false) (fun Q c => ⟨_,rfl,_,rfl,_,rfl,_,_,t65 (v := .ref _) (by decide) (get_pre p225 (g 11)) lt_f D.le,_,_,t53 Z25 Y (by decide) rfl hs rfl,_,rfl,_,_,t65 (v := .ref _) (by decide) (get_pre p25 e24) lt_f D.le,c _ (congrArg some (neq_mk fun t ht => hit_eq Y hs ht lt_f fun q hq => rfl))⟩) nofun fun _ => ?_
  have qn := q_nodup (B := byL fs rs b s (ownL fs rs b s)) (R := roomL fs rs b s SO.contains (byL fs rs b (1 - s) (ownL fs rs b (1 - s)) 1).contains (heL fs rs b s)) (TM := TO) (s := s) Y
  have hR : ∀ t,t < fs * rs → roomB fs rs b s t = (roomL fs rs b s SO.contains (byL fs rs b (1 - s) (ownL fs rs b (1 - s)) 1).contains (heL fs rs b s)).contains t := fun t ht => room_eq Y hs ht (by rw [LO.hS,sh_eq Y hs ht]) (by_eq Y one_lt (by decide) ht) (he_eq Y hs ht)
  have hq1 : ∀ t,t < fs * rs → q1B fs rs b s t = _ := fun t ht => q1_eq (B := byL fs rs b s (ownL fs rs b s)) Y ht (by_eq Y hs (by decide) ht) (hR t ht)
  have hq2 : ∀ t,t < fs * rs → q2B fs rs b s t = _ := fun t ht => q2_eq (B := byL fs rs b s (ownL fs rs b s)) (TM := TO) Y ht (fun k hk => by_eq Y hs hk ht) (hR t ht) (by rw [tw_eq Y hs ht,LO.cT t ht]; rfl)
  clear hR
  obtain ⟨JJ,e22,nd1,lt1,hq1⟩ : ∃ J,h22[a22]? = some (.lst (J.map vN)) ∧ J.Nodup ∧ (∀ t ∈ J,t < fs * rs) ∧ ∀ t,t < fs * rs → q1B fs rs b s t = J.contains t := ⟨_,e22,qn.1,qn.2.2.1,hq1⟩
  obtain ⟨KK,e23,nd2,lt2,hq2⟩ : ∃ J,h22[a23]? = some (.lst (J.map vN)) ∧ J.Nodup ∧ (∀ t ∈ J,t < fs * rs) ∧ ∀ t,t < fs * rs → q2B fs rs b s t = J.contains t := ⟨_,e23,qn.2.1,qn.2.2.2,hq2⟩
  clear qn
  have p56 := List.prefix_append h25 [O.tup [.int (mk (fs * rs) (q1B fs rs b s)),.int (mk (fs * rs) (q2B fs rs b s))]]
  have p2456 := (p24.trans p25).trans p56
  refine ⟨_,rfl,_,rfl,_,rfl,_,_,t56 Z25 Y (M.mono q25) (by decide) rfl hs,_,rfl,_,_,t65 (v := .ref _) (by decide) (get_pre p2456 e22) lt1 D.le,_,rfl,_,_,t65 (v := .ref _) (by decide) (get_pre p2456 e23) lt2 D.le,rfl,_,tup_ne (get_pre (List.prefix_append _ _) (last_get h25 _)) (last_get _ _) (mk_congr hq1) (mk_congr hq2),nofun,fun _ => ?_⟩
  refine sig_eq (σ := [_,_,_,_,_,_,_,_,_,_,_,_,_,_,_,_,_,_,_,_,_,_,_,_,_,_,_,_,_,_,_,_,_,_,_,_,_]) rfl ?_
  refine pre_hide (h := h25) (fun h26 p26 => ?_) (p56.trans (List.prefix_append _ _))
  have lle : (leL fs rs b s).length ≤ 60 := Nat.le_trans (List.length_filter_le _ _) (Nat.le_trans (List.length_filter_le _ _) (by rw [List.length_range]; exact Nat.le_trans hN (by decide)))
  have lwe : (weL fs rs b s).length ≤ 60 := Nat.le_trans (List.length_filter_le _ _) (Nat.le_trans (List.length_filter_le _ _) (by rw [List.length_range]; exact Nat.le_trans hN (by decide)))
  have p226 := p225.trans p26
  have q26 := q25.trans p26
  obtain ⟨v27,h27,c27,p27,a27,rfl,e27⟩ := t76 (sa := sa) (zs := zs) (n := 77) (h := h26) Y (by decide) (obj_pre q26 eb) (get_pre p226 (g 6)) (lt_ff lt_f) lle minorL_ok
  have p227 := p226.trans p27
  have q27 := q26.trans p27
  have q28 := List.prefix_append h27 [O.lst (((weL fs rs b s).filter fun t => inBy fs rs b s 4 t).map vN)]
  obtain ⟨v28,h28,c28,p28,a28,rfl,e28⟩ := t76 (sa := sa) (zs := zs) (n := 77) (h := h27 ++ [O.lst (((weL fs rs b s).filter fun t => inBy fs rs b s 4 t).map vN)]) Y (by decide) (obj_pre (q27.trans q28) eb) (last_get h27 _) (lt_ff (lt_ff lt_f)) (Nat.le_trans (List.length_filter_le _ _) lwe) rookL_ok
  have hcl : ∀ p : Nat → Bool,(((weL fs rs b s).filter p).map vN).length ≤ lenMax := fun p => by rw [List.length_map]; exact Nat.le_trans (List.length_filter_le _ _) (Nat.le_trans lwe (by decide))
  have p2728 := q28.trans p28
  have p228 := p227.trans p2728
  have q228 := q27.trans p2728
  have P1 := List.prefix_append h28 [O.lst (((weL fs rs b s).filter fun t => inBy fs rs b s 6 t).map vN)]
  have P2 := List.prefix_append (h28 ++ [O.lst (((weL fs rs b s).filter fun t => inBy fs rs b s 6 t).map vN)]) [O.lst (((weL fs rs b s).filter fun t => inBy fs rs b (1 - s) 5 t).map vN)]
  have P12 := P1.trans P2
  refine ⟨_,rfl,_,rfl,_,_,c27,rfl,_,rfl,_,rfl,_,_,get_pre p227 (g 4),rfl,_,_,compF (fun t => inBy fs rs b s 4 t) (stable_of (v := .ref _) (get_pre p227 (g 4))) (fun t ht => tst_inb (LO.mono q27) rfl rfl (by decide)),hcl _,_,_,c28,rfl,?_⟩
  refine sig_eq (σ := [_,_,_,_,_,_,_,_,_,_,_,_,_,_,_,_,_,_,_,_,_,_,_,_,_,_,_,_,_,_,_,_,_,_,_,_,_]) rfl ?_
  refine wSs_assign (ite_comp (fun t => inBy fs rs b s 6 t) rfl (get_pre p228 (g 4)) (Nat.le_trans lwe (by decide)) (fun t ht => tst_inb (LO.mono q228) rfl rfl (by decide)) ⟨rfl,?_⟩)
  refine sig_eq (σ := [_,_,_,_,_,_,_,_,_,_,_,_,_,_,_,_,_,_,_,_,_,_,_,_,_,_,_,_,_,_,_,_,_,_,_,_,_]) rfl ?_
  refine ⟨_,rfl,_,_,get_pre (p228.trans P1) (g 4),rfl,_,_,compF (fun t => inBy fs rs b (1 - s) 5 t) (stable_of (v := .ref _) (get_pre (p228.trans P1) (g 4))) (fun t ht => tst_inby (LF.mono (q228.trans P1)) rfl rfl (by decide)),hcl _,_,_,len_ok (v := .ref _) (last_get _ _) (Nat.le_trans (List.length_filter_le _ _) (Nat.le_trans lwe (by decide))),rfl,?_⟩
  refine sig_eq (σ := [_,_,_,_,_,_,_,_,_,_,_,_,_,_,_,_,_,_,_,_,_,_,_,_,_,_,_,_,_,_,_,_,_,_,_,_,_]) rfl ?_
  refine wSs_assign (ite_len (fun t => Nat.beq (cell b t % 8) 5) rfl (get_pre (p228.trans P12) (g 0)) hN1 (fun t ht => fun Q c => ⟨_,rfl,_,rfl,_,cel (obj_pre (q228.trans P12) eb) t ht,_,md t,c _ (congrArg some eq_int)⟩) ⟨rfl,?_⟩)
  refine sig_eq (σ := [_,_,_,_,_,_,_,_,_,_,_,_,_,_,_,_,_,_,_,_,_,_,_,_,_,_,_,_,_,_,_,_,_,_,_,_,_]) rfl ?_
  refine pre_hide (h := h28) (fun h31 p31 => ?_) (P12.trans (List.prefix_append _ _))
  have nodup_len : ∀ L : List Nat,L.Nodup → (∀ t ∈ L,t < fs * rs) → L.length ≤ 1000 := fun L nd lt => by rw [← len_filter nd lt]; exact l30 _
  have q31 := q228.trans p31
  have p228f := p228.trans p31
  have p25f := (p26.trans (p27.trans p2728)).trans p31
  have p24f := p25.trans p25f
  have p22f := p24.trans p24f
  have s26a := sub_lst (v := .ref a27) (C := (P0 sa zs).C) (get_pre (p2728.trans p31) e27) (i := Int.ofNat 0) (by decide) (by decide) rfl
  have s26b := sub_lst (v := .ref a27) (C := (P0 sa zs).C) (get_pre (p2728.trans p31) e27) (i := Int.ofNat 1) (by decide) (by decide) rfl
  have s27a := sub_lst (v := .ref a28) (C := (P0 sa zs).C) (get_pre p31 e28) (i := Int.ofNat 0) (by decide) (by decide) rfl
  have s27b := sub_lst (v := .ref a28) (C := (P0 sa zs).C) (get_pre p31 e28) (i := Int.ofNat 1) (by decide) (by decide) rfl
  have n5 := len_ok (v := .ref _) (C := (P0 sa zs).C) (get_pre p228f (g 5)) (Nat.le_trans (List.length_filter_le _ _) (Nat.le_trans lwe (by decide)))
  have n7 := len_ok (v := .ref _) (C := (P0 sa zs).C) (get_pre p228f (g 7)) (l30 _)
  have n24 := len_ok (v := .ref _) (C := (P0 sa zs).C) (get_pre p24f e24) (l30 _)
  have n25 := len_ok (v := .ref _) (C := (P0 sa zs).C) (get_pre p25f e25) (l30 _)
  have n22 := len_ok (v := .ref _) (C := (P0 sa zs).C) (get_pre p22f e22) (nodup_len _ nd1 lt1)
  have n23 := len_ok (v := .ref _) (C := (P0 sa zs).C) (get_pre p22f e23) (nodup_len _ nd2 lt2)
  have sm30 : small (bif Nat.beq ((List.range (fs * rs)).filter fun t => Nat.beq (cell b t % 8) 5).length 1 then Int.ofNat 2 else Int.ofNat 1) = true := by cases Nat.beq ((List.range (fs * rs)).filter fun t => Nat.beq (cell b t % 8) 5).length 1 <;> rfl
  have esc := th_sc (hd := hd) Y hs nd1 nd2 lt1 lt2 hq1 hq2
  obtain ⟨v58,h58,c58,rfl,p58⟩ := t58 (sa := sa) (zs := zs) (n := 77) (h := h31) (Z.mono q31) Y (M.mono q31) (by decide) (z := s) rfl hs
  have q58 := q31.trans p58
  obtain ⟨ar1,r1a,r1b⟩ := LF.rows 1 (by decide)
  obtain ⟨v33,h33,c33,p33,rfl⟩ := t75 (sa := sa) (zs := zs) (n := 77) (h := h58) Y (by decide) (x := fs) (y := rs) (z := s) rfl rfl rfl hs (obj_pre q58 eb) (sub_pre q58 LF.o2) (sub_pre q58 r1a) (get_pre q58 r1b) (sub_pre q58 LF.o3) (get_pre q58 LF.eT) LF.lT
  have hsp : spaceN fs rs b s = _ := space_eq (H := (byL fs rs b (1 - s) (ownL fs rs b (1 - s)) 1).contains) (TM := TF) Y hs (fun t ht => by_eq Y one_lt (by decide) ht) (fun t ht => by rw [LF.cT t ht]; exact by0_eq Y one_lt ht)
  rw [← hsp] at c33
  clear hsp s27b
  have s27b := sub_lst (v := .ref a28) (C := (P0 sa zs).C) (get_pre p31 e28) (i := Int.ofNat 1) (by decide) (by decide) rfl
  refine ⟨_,rfl,_,s26a,_,rfl,_,s27a,_,rfl,_,mul_ok rfl,_,rfl,_,_,n5,_,mul_ok rfl,_,rfl,_,mul_ok rfl,_,rfl,_,_,n7,_,mul_ok rfl,_,rfl,_,_,n24,_,mul_ok rfl,rfl,?_⟩
  refine sig_eq (σ := [_,_,_,_,_,_,_,_,_,_,_,_,_,_,_,_,_,_,_,_,_,_,_,_,_,_,_,_,_,_,_,_,_,_,_,_,_]) rfl ?_
  refine ⟨_,rfl,_,rfl,_,_,n25,_,mul_ok rfl,_,rfl,_,_,n22,_,mul_ok rfl,_,rfl,_,_,n23,_,mul_ok rfl,_,rfl,_,mulr_ok sm30,?_⟩
  refine sig_eq (σ := [_,_,_,_,_,_,_,_,_,_,_,_,_,_,_,_,_,_,_,_,_,_,_,_,_,_,_,_,_,_,_,_,_,_,_,_,_]) rfl ?_
  refine slot_eq [_,_,_,_,_,_,_,_,_,_,_,_,_,_,_,_,_,_,_,_,_,_,_,_,_,_,_,_,_,_,_] [_,_,_,_,_] (mgI ((leL fs rs b s).map fun t => (minorT (cell b t % 8)).1).sum (((weL fs rs b s).filter fun t => inBy fs rs b s 4 t).map fun t => (rookT (cell b t % 8)).1).sum (bif ((weL fs rs b s).filter fun t => inBy fs rs b s 6 t).isEmpty then Int.ofNat 0 else Int.ofNat 1) (haL fs rs b s).length ((weL fs rs b s).filter fun t => inBy fs rs b (1 - s) 5 t).length (tiL fs rs b s).length (hitL fs rs b s (paL fs rs b s)).length (hitL fs rs b s (goL fs rs b hd s)).length JJ.length KK.length (bif Nat.beq ((List.range (fs * rs)).filter fun t => Nat.beq (cell b t % 8) 5).length 1 then Int.ofNat 2 else Int.ofNat 1)) rfl ?_
  refine sig_eq (σ := [_,_,_,_,_,_,_,_,_,_,_,_,_,_,_,_,_,_,_,_,_,_,_,_,_,_,_,_,_,_,_,_,_,_,_,_,_]) rfl ?_
  refine ⟨_,rfl,_,s26b,_,rfl,_,s27b,_,rfl,_,mul_ok rfl,_,rfl,_,_,n5,_,mul_ok rfl,_,rfl,_,_,n7,_,mul_ok rfl,_,rfl,_,_,n24,_,mul_ok rfl,rfl,?_⟩
  refine sig_eq (σ := [_,_,_,_,_,_,_,_,_,_,_,_,_,_,_,_,_,_,_,_,_,_,_,_,_,_,_,_,_,_,_,_,_,_,_,_,_]) rfl ?_
  refine ⟨_,rfl,_,rfl,_,_,n25,_,mul_ok rfl,_,rfl,_,_,n22,_,mul_ok rfl,_,rfl,_,_,n23,_,mul_ok rfl,_,rfl,_,mulr_ok sm30,?_⟩
  refine sig_eq (σ := [_,_,_,_,_,_,_,_,_,_,_,_,_,_,_,_,_,_,_,_,_,_,_,_,_,_,_,_,_,_,_,_,_,_,_,_,_]) rfl ?_
  refine slot_eq [_,_,_,_,_,_,_,_,_,_,_,_,_,_,_,_,_,_,_,_,_,_,_,_,_,_,_,_,_,_,_,_] [_,_,_,_] (egI ((leL fs rs b s).map fun t => (minorT (cell b t % 8)).2).sum (((weL fs rs b s).filter fun t => inBy fs rs b s 4 t).map fun t => (rookT (cell b t % 8)).2).sum (bif ((weL fs rs b s).filter fun t => inBy fs rs b s 6 t).isEmpty then Int.ofNat 0 else Int.ofNat 1) (haL fs rs b s).length (tiL fs rs b s).length (hitL fs rs b s (paL fs rs b s)).length (hitL fs rs b s (goL fs rs b hd s)).length JJ.length KK.length (bif Nat.beq ((List.range (fs * rs)).filter fun t => Nat.beq (cell b t % 8) 5).length 1 then Int.ofNat 2 else Int.ofNat 1)) rfl ?_
  refine sig_eq (σ := [_,_,_,_,_,_,_,_,_,_,_,_,_,_,_,_,_,_,_,_,_,_,_,_,_,_,_,_,_,_,_,_,_,_,_,_,_]) rfl ?_
  refine ⟨_,rfl,_,rfl,_,rfl,_,_,c58,_,rfl,_,mulr_ok rfl,_,rfl,fun z => (bne_iff_ne.mp z esc).elim,fun _ => ?_⟩
  refine ⟨_,rfl,_,rfl,_,rfl,_,rfl,_,rfl,_,_,c33,rfl,?_⟩
  refine sig_eq (σ := [_,_,_,_,_,_,_,_,_,_,_,_,_,_,_,_,_,_,_,_,_,_,_,_,_,_,_,_,_,_,_,_,_,_,_,_,_]) rfl ?_
  refine pre_hide (h := h33) (fun h34 p34 => ?_) (List.prefix_refl _)
  have p34g := (p228f.trans p58).trans (p33.trans p34)
  have q34 := q58.trans (p33.trans p34)
  have hrl : ∀ p : Nat → Bool,(((List.range (fs * rs)).filter p).map vN).length ≤ lenMax := fun p => by rw [List.length_map]; exact Nat.le_trans (l30 p) (by decide)
  have e34 : Int.ofNat 2 * ((((List.range (fs * rs)).filter fun t => Nat.beq (cell b t) 1 && Nat.beq (cell b (t + fs)) 9).length : Nat) : Int) = ((blockN fs rs b : Nat) : Int) := by rw [block_eq Y]; exact (Int.natCast_mul 2 _).symm
  have up1 : ∀ t,t < fs * rs → Nat.beq (cell b t) 1 = true → t + fs < fs * rs := fun t ht z => by
    have := (Y.pawn 0 t (by decide) ht (by unfold isK; exact z)).2
    exact Nat.lt_of_lt_of_le (Nat.add_lt_add_right (Nat.lt_mul_div_succ t D.pos) fs) (Nat.mul_le_mul_left fs (this : t / fs + 1 + 1 ≤ rs))
  obtain ⟨f,hf⟩ := Int.eq_ofNat_of_zero_le (fact_le (b := b) (s := s) hN).1
  obtain ⟨m1,m2⟩ := spc_mul (space_le (b := b) (s := s) hN) (Int.ofNat_le.mp (hf ▸ (fact_le hN).2) : f ≤ 100)
  have hlt : decide (Int.ofNat 16 * ((((List.range (fs * rs)).filter fun t => [2,3,4,5].contains (cell b t % 8)).length : Nat) : Int) < Int.ofNat 3 * ((fs * rs : Nat) : Int)) = decide (16 * offN fs rs b < 3 * (fs * rs)) := by
    rw [off_len Y]
    generalize ((List.range (fs * rs)).filter fun t => [2,3,4,5].contains (cell b t % 8)).length = x
    generalize fs * rs = y
    rw [decide_eq_decide]
    exact Int.ofNat_lt (n := 16 * x) (m := 3 * y)
  have R1 := List.prefix_append h34 [O.lst (((List.range (fs * rs)).filter fun t => Nat.beq (cell b t) 1 && Nat.beq (cell b (t + fs)) 9).map vN)]
  have R2 := R1.trans (List.prefix_append _ [O.lst (((List.range (fs * rs)).filter (ownB b s)).map vN)])
  refine ⟨_,rfl,_,_,get_pre p34g (g 0),rng_items hN1,_,_,compF (fun t => Nat.beq (cell b t) 1 && Nat.beq (cell b (t + fs)) 9) (stable_of (v := .ref _) (get_pre p34g (g 0))) (fun t ht => tst_and (fun Q c => ⟨_,rfl,_,rfl,_,cel (obj_pre q34 eb) t (List.mem_range.mp ht),c _ (congrArg some eq_int)⟩) fun z Q c => ⟨_,rfl,_,rfl,_,rfl,_,cel (obj_pre q34 eb) (t + fs) (up1 t (List.mem_range.mp ht) z),c _ (congrArg some eq_int)⟩),hrl _,_,_,len_ok (v := .ref _) (last_get h34 _) (l30 _),_,(mul_ok rfl).trans (congrArg some e34),rfl,?_⟩
  refine sig_eq (σ := [_,_,_,_,_,_,_,_,_,_,_,_,_,_,_,_,_,_,_,_,_,_,_,_,_,_,_,_,_,_,_,_,_,_,_,_,_]) rfl ?_
  refine ⟨_,rfl,_,_,get_pre (p34g.trans R1) (g 0),rng_items hN1,_,_,compF (ownB b s) (stable_of (v := .ref _) (get_pre (p34g.trans R1) (g 0))) (fun t ht => tst_and (fun Q c => ⟨_,rfl,_,rfl,_,cel (obj_pre (q34.trans R1) eb) t (List.mem_range.mp ht),c _ tst_int⟩) fun z Q c => ⟨_,rfl,_,rfl,_,cel (obj_pre (q34.trans R1) eb) t (List.mem_range.mp ht),_,dv t,_,rfl,c _ (congrArg some eq_int)⟩),hrl _,_,_,len_ok (v := .ref _) (last_get _ _) (l30 _),_,rfl,_,_,rfl,V.int (f : Nat),_,(by rw [← hf]; rfl),rfl,?_⟩
  refine sig_eq (σ := [_,_,_,_,_,_,_,_,_,_,_,_,_,_,_,_,_,_,_,_,_,_,_,_,_,_,_,_,_,_,_,_,_,_,_,_,_]) rfl ?_
  refine ⟨_,rfl,_,rfl,_,m1,_,rfl,_,m2,_,div_ok rfl rfl (by decide) (by decide),rfl,?_⟩
  refine sig_eq (σ := [_,_,_,_,_,_,_,_,_,_,_,_,_,_,_,_,_,_,_,_,_,_,_,_,_,_,_,_,_,_,_,_,_,_,_,_,_]) rfl ?_
  refine ite_ltlen (fun t => [2,3,4,5].contains (cell b t % 8)) rfl rfl (get_pre (p34g.trans R2) (g 0)) hN1 (fun t ht h' q Q c => ⟨_,rfl,_,rfl,_,cel (obj_pre ((q34.trans R2).trans q) eb) t ht,_,md t,rfl,_,in_tup [2,3,4,5] rfl (last_get h' _),c _ _ rfl (List.prefix_append _ _)⟩)
    (fun h' q => by rw [len_ok (obj_pre ((q34.trans R2).trans q) eb) (len_le Y),Y.len]) fun h36 q36 => ?_
  have q36 := (q34.trans R2).trans q36
  replace Z := Z.mono q36
  replace M := M.mono q36
  refine ⟨fun c => ⟨rfl,?_⟩,fun c => ?_⟩
  · refine sig_eq (σ := [_,_,_,_,_,_,_,_,_,_,_,_,_,_,_,_,_,_,_,_,_,_,_,_,_,_,_,_,_,_,_,_,_,_,_,_,_]) rfl ?_
    refine ⟨_,rfl,_,rfl,_,rfl,_,_,t60 Z Y M (by decide) rfl hs,_,rfl,fun _ => ⟨_,rfl,_,_,t61 Z Y (by decide),_,rfl,fun _ => ⟨_,rfl,_,rfl,_,rfl,_,_,t62 Z Y M (by decide) rfl hs,_,rfl,congrArg V.bool ?_,q36⟩,fun z => absurd (beq_self_eq_true _) (Bool.eq_false_iff.mp z)⟩,fun z => absurd (beq_self_eq_true _) (Bool.eq_false_iff.mp z)⟩
    unfold spcN
    rw [if_pos (of_decide_eq_true (hlt.symm.trans c))]; rfl
  · refine ⟨_,rfl,_,rfl,_,rfl,_,_,t60 Z Y M (by decide) rfl hs,_,rfl,fun _ => ⟨_,rfl,_,_,t61 Z Y (by decide),_,rfl,fun _ => ⟨_,rfl,_,rfl,_,rfl,_,_,t62 Z Y M (by decide) rfl hs,_,rfl,congrArg V.bool ?_,q36⟩,fun z => absurd (beq_self_eq_true _) (Bool.eq_false_iff.mp z)⟩,fun z => absurd (beq_self_eq_true _) (Bool.eq_false_iff.mp z)⟩
    unfold spcN
    rw [if_neg (of_decide_eq_false (hlt.symm.trans c)),hf,← Int.natCast_mul,← Int.natCast_mul,Int.fdiv_eq_ediv_of_nonneg _ (by decide)]
    exact beq_self_eq_true _
end
theorem cell_set {b : List Nat} {t v u : Nat} (ht : t < b.length) : cell (b.set t v) u = bif Nat.beq t u then v else cell b u := by
  unfold cell
  rw [List.getD_eq_getElem?_getD,List.getD_eq_getElem?_getD]
  by_cases e : t = u
  · subst e; rw [List.getElem?_set_self ht,Nat.beq_refl]; rfl
  · rw [List.getElem?_set_ne e,beq_ff.mpr e]; rfl
theorem king_of {N : Nat} {b : List Nat} {s q : Nat} (hl : b.length = N) (hq : q < N) (h : ∀ t,t < N → isK b s 6 t = Nat.beq q t) : kingOf b s = q := by
  have hc : cell b q = 8 * s + 6 := beq_iff'.mp ((h q hq).trans (Nat.beq_refl _))
  have hq' : q < b.length := by rw [hl]; exact hq
  have hmem : 8 * s + 6 ∈ b := by
    rw [← hc,cell,List.getD_eq_getElem?_getD,List.getElem?_eq_getElem hq']
    exact List.getElem_mem hq'
  have hi := List.idxOf_lt_length_iff.mpr hmem
  have h3 : isK b s 6 (b.idxOf (8 * s + 6)) = true := by
    refine beq_iff'.mpr ?_
    rw [cell,List.getD_eq_getElem?_getD,List.getElem?_eq_getElem hi,Option.getD_some,List.getElem_idxOf]
  rw [h _ (by rw [← hl]; exact hi)] at h3
  exact (beq_iff'.mp h3).symm
structure Brd0 (fs rs : Nat) (b : List Nat) (q0 q1 : Nat) : Prop where
  len : b.length = fs * rs
  lt : ∀ t,cell b t < 15
  ok : ∀ t,cell b t % 8 < 7 ∧ (cell b t % 8 = 0 → cell b t = 0)
  pawn : ∀ s t,s < 2 → t < fs * rs → isK b s 1 t = true → 0 < t / fs ∧ t / fs + 1 < rs
  k0 : ∀ t,t < fs * rs → isK b 0 6 t = Nat.beq q0 t
  k1 : ∀ t,t < fs * rs → isK b 1 6 t = Nat.beq q1 t
theorem Brd0.good {fs rs : Nat} {b : List Nat} {q0 q1 : Nat} (D : Dim fs rs) (x : Brd0 fs rs b q0 q1) (h0 : q0 < fs * rs) (h1 : q1 < fs * rs) : Good fs rs b where
  dim := D
  len := x.len
  lt := fun t => Nat.lt_succ_of_lt (x.lt t)
  ok := x.ok
  pawn := x.pawn
  king := fun s hs => by
    rcases (two_ways hs) with rfl | rfl
    · rw [king_of x.len h0 x.k0]; exact ⟨h0,x.k0⟩
    · rw [king_of x.len h1 x.k1]; exact ⟨h1,x.k1⟩
theorem Brd0.set {fs rs : Nat} {b : List Nat} {q0 q1 t k r : Nat} (x : Brd0 fs rs b q0 q1) (ht : t < fs * rs) (h0 : cell b t = 0) (hk : 1 ≤ k ∧ k ≤ 5) (hr : r < 2) (hp : k = 1 → 0 < t / fs ∧ t / fs + 1 < rs) : Brd0 fs rs (b.set t (k + r * 8)) q0 q1 := by
  have ht' : t < b.length := by rw [x.len]; exact ht
  obtain ⟨hv,hw⟩ := (show ∀ k,k < 6 → ∀ r,r < 2 → 1 ≤ k → (k + r * 8 < 15 ∧ (k + r * 8) % 8 = k) ∧ ((k + r * 8) % 8 < 7 ∧ ((k + r * 8) % 8 = 0 → k + r * 8 = 0)) by decide) k (Nat.lt_succ_of_le hk.2) r hr hk.1
  have km : ∀ s c,c < 8 → k + r * 8 = 8 * s + c → k = c := fun s c hc z => by have := hv.2; rw [z,Nat.mul_add_mod,Nat.mod_eq_of_lt hc] at this; exact this.symm
  have hkg : ∀ s u,isK (b.set t (k + r * 8)) s 6 u = isK b s 6 u := fun s u => by
    unfold isK
    rw [cell_set ht']
    by_cases e : t = u
    · subst e; rw [Nat.beq_refl,h0,cond_true,beq_ff.mpr (show k + r * 8 ≠ 8 * s + 6 from fun z => by rw [km s 6 (by decide) z] at hk; exact absurd hk.2 (by decide)),beq_ff.mpr (show 0 ≠ 8 * s + 6 from (Nat.succ_ne_zero (8 * s + 5)).symm)]
    · rw [beq_ff.mpr e]; rfl
  refine ⟨by rw [List.length_set]; exact x.len,fun u => ?_,fun u => ?_,fun s u hs hu hi => ?_,fun u hu => by rw [hkg]; exact x.k0 u hu,fun u hu => by rw [hkg]; exact x.k1 u hu⟩
  · rw [cell_set ht']; cases Nat.beq t u
    · exact x.lt u
    · exact hv.1
  · rw [cell_set ht']; cases Nat.beq t u
    · exact x.ok u
    · exact hw
  · unfold isK at hi
    rw [cell_set ht'] at hi
    by_cases e : t = u
    · subst e
      rw [Nat.beq_refl,cond_true] at hi
      have := beq_iff'.mp hi
      exact hp (km s 1 (by decide) this)
    · rw [beq_ff.mpr e] at hi; exact x.pawn s u hs hu hi
theorem cell_rep {N t : Nat} : cell (List.replicate N 0) t = 0 := by
  unfold cell
  rw [List.getD_eq_getElem?_getD,List.getElem?_replicate]
  split <;> rfl
theorem Brd0.first {fs rs w u : Nat} (hw : w < fs * rs) (hu : u < fs * rs) (ne : w ≠ u) : Brd0 fs rs (((List.replicate (fs * rs) 0).set w 6).set u 14) w u := by
  have l0 : w < (List.replicate (fs * rs) 0).length := by rw [List.length_replicate]; exact hw
  have l1 : u < ((List.replicate (fs * rs) 0).set w 6).length := by rw [List.length_set,List.length_replicate]; exact hu
  have hc : ∀ t,cell (((List.replicate (fs * rs) 0).set w 6).set u 14) t = bif Nat.beq u t then 14 else bif Nat.beq w t then 6 else 0 := fun t => by
    rw [cell_set l1,cell_set l0,cell_rep]
  refine ⟨by rw [List.length_set,List.length_set,List.length_replicate],fun t => ?_,fun t => ?_,fun s t hs ht hi => ?_,fun t ht => ?_,fun t ht => ?_⟩
  · rw [hc]; cases Nat.beq u t <;> cases Nat.beq w t <;> decide
  · rw [hc]; cases Nat.beq u t <;> cases Nat.beq w t <;> decide
  · unfold isK at hi
    rw [hc] at hi
    have hi := beq_iff'.mp hi
    revert hi
    have key : ∀ c,c = 8 * s + 1 → c % 8 = 1 := fun c z => by rw [z,Nat.mul_add_mod]
    cases Nat.beq u t <;> cases Nat.beq w t <;> exact fun hi => absurd (key _ hi) (by decide)
  · unfold isK
    rw [hc]
    by_cases e : u = t
    · subst e; rw [Nat.beq_refl,beq_ff.mpr ne]; rfl
    · rw [beq_ff.mpr e]; cases Nat.beq w t <;> rfl
  · unfold isK
    rw [hc]
    by_cases e : u = t
    · subst e; rw [Nat.beq_refl]; rfl
    · rw [beq_ff.mpr e]; cases Nat.beq w t <;> rfl
theorem modz {x : Int} {N : Nat} (h : 0 < N) : ∃ r : Nat,r < N ∧ binInt .Mod x (N : Int) = some (r : Int) := by
  refine ⟨(x.fmod N).toNat,?_,?_⟩
  · exact (Int.toNat_lt (Int.fmod_nonneg_of_pos x (Int.ofNat_lt.mpr h))).mpr (Int.fmod_lt_of_pos x (Int.ofNat_lt.mpr h))
  · show (if (N : Int) ≠ 0 then some (x.fmod N) else none) = _
    rw [if_pos (show (N : Int) ≠ 0 from Int.ofNat_ne_zero.mpr (Nat.ne_of_gt h)),Int.toNat_of_nonneg (Int.fmod_nonneg_of_pos x (Int.ofNat_lt.mpr h))]
theorem divz {x : Int} {N : Nat} (h : 0 < N) (h1 : N < 2 ^ 64) : binInt .FloorDiv x (N : Int) = some (x.fdiv N) := by
  show (if (decide ((N : Int) ≠ 0) && small N) = true then _ else _) = _
  rw [if_pos (by rw [decide_eq_true (show (N : Int) ≠ 0 from Int.ofNat_ne_zero.mpr (Nat.ne_of_gt h)),small_nat h1]; rfl)]
theorem add_lst {C : Nat → Option O} {h : H} {a c : Nat} {xs ys : List V} (ea : h[a]? = some (.lst xs)) (ec : h[c]? = some (.lst ys)) (hl : xs.length + ys.length ≤ 1000) : binV C .Add (.ref a) (.ref c) h = some (.ref h.length,h ++ [.lst (xs ++ ys)]) := by
  exact bL_mk (X := h[a]?) ea (bL_mk (X := h[c]?) ec (if_pos (Nat.le_trans hl (by decide))))
theorem len_v {C : Nat → Option O} {h : H} {a : Nat} {xs : List V} (e : h[a]? = some (.lst xs)) (hl : xs.length ≤ 1000) : biV C 0 [.ref a] h = some (vN xs.length,h) := by
  exact bL_mk (X := h[a]?) e (if_pos (Nat.le_trans hl (by decide)))
noncomputable def TstB (P : Par) (F : Call) (e : ME) (σ : Sig) (h : H) (x : Bool) : Prop := ∀ Q : V → H → Prop,Q (.bool x) h → wE P F e σ h Q
theorem orB {P : Par} {F : Call} {a b : ME} {σ : Sig} {h : H} {x y : Bool} {Q : V → H → Prop} (ha : TstB P F a σ h x) (hb : TstB P F b σ h y) (q : Q (.bool (x || y)) h) : wE P F (.or a b) σ h Q :=
  ha _ ⟨fun z => by have z : x = true := z; subst z; exact q,fun z => by have z : x = false := z; subst z; exact hb _ q⟩
theorem ns_form (L : List Int) (hl : L.length ≤ 11) : ∃ (x0 x1 : Int) (T : List Int),L.map V.int ++ [V.int (.ofNat 0),V.int (.ofNat 9)].drop (Int.toNat ((L.map V.int).length : Int)) = V.int x0 :: V.int x1 :: T.map V.int ∧ T.length ≤ 9 := by
  match L,hl with
  | [],_ => exact ⟨_,_,[],rfl,by decide⟩
  | [x],_ => exact ⟨_,_,[],rfl,by decide⟩
  | x :: y :: r,hl =>
    refine ⟨x,y,r,?_,by simpa using hl⟩
    rw [Int.toNat_natCast,List.length_map,List.length_cons,List.length_cons,List.drop_eq_nil_of_le (by simp),List.append_nil]; rfl
inductive J63a (h : H) (fs : Nat) (rs : Nat) (a2 : Nat) (h5 : H) (T : List Int) (w : Nat) (u : Nat) (xs : List V) (σ : Sig) (h' : H) : Prop
  | mk (K : List Int) (b : List Nat) (o6 o7 o8 o9 : Option V) (c0 : xs = K.map .int) (c1 : σ = [some (.int fs),some (.int rs),some (.ref a2),some (vN (fs * rs)),some (.ref (h.length + 4)),some (vN w),o6,o7,o8,o9]) (c2 : h'.length = h.length + 6) (c3 : h'[h.length + 4]? = some (.lst (b.map vN))) (c4 : h'[h5.length]? = some (.lst (T.map .int))) (c5 : Brd0 fs rs b w u) : J63a h fs rs a2 h5 T w u xs σ h'
section
variable {sa : Nat} {zs : List Int} {n : Nat} {h : H} {fs rs : Nat} (D : Dim fs rs)
include D
theorem t63 (hn : 63 < n) {al : Nat} {L : List Int} (eL : h[al]? = some (.lst (L.map .int))) (hl : L.length ≤ 11) :
    Meets (P0 sa zs) n 63 [.int fs,.int rs,.ref al] h fun v h' => ∃ b,v = .ref (h.length + 4) ∧ h'.length = h.length + 6 ∧ h'[h.length + 4]? = some (.lst (b.map vN)) ∧ Good fs rs b := by
  have hN := D.size
  have hf := D.1
  have hr := D.2
  have np : 0 < fs * rs := Nat.lt_of_lt_of_le (by decide) hN.1
  obtain ⟨x0,x1,T,eNS,hT⟩ := ns_form L hl
  have hll : (L.map V.int).length ≤ 11 := by rw [List.length_map]; exact hl
  have pA := List.prefix_append h [O.lst [V.int (.ofNat 0),V.int (.ofNat 9)]]
  have pB := List.prefix_append (h ++ [O.lst [V.int (.ofNat 0),V.int (.ofNat 9)]]) [O.lst ([V.int (.ofNat 0),V.int (.ofNat 9)].drop (Int.toNat ((L.map V.int).length : Int)))]
  have hd2 : ([V.int (.ofNat 0),V.int (.ofNat 9)].drop (Int.toNat ((L.map V.int).length : Int))).length ≤ 2 := by rw [List.length_drop]; exact Nat.sub_le _ _
  obtain ⟨w,hw,mw⟩ := modz (x := x0) (N := fs * rs) np
  obtain ⟨r1,hr1,mr1⟩ := modz (x := x1) (N := fs * rs - 1) (Nat.sub_pos_of_lt (Nat.lt_of_lt_of_le (by decide) hN.1))
  refine call_wp m63 hn ⟨rfl,_,rfl,_,rfl,_,(mul_ok (small_nat (Nat.lt_of_le_of_lt hf.2 (by decide)))).trans (congrArg some (Int.natCast_mul fs rs).symm),rfl,
    _,rfl,rfl,_,rfl,_,_,len_v (get_pre pA eL) (Nat.le_trans hll (by decide)),_,_,rfl,last_get h _,⟨Int.natCast_nonneg _,by decide⟩,_,_,add_lst (get_pre pB (get_pre pA eL)) (last_get _ _) (Nat.le_trans (Nat.add_le_add hll hd2) (by decide)),rfl,?_⟩
  refine heap_eq (h2 := h ++ [O.lst [V.int (.ofNat 0),V.int (.ofNat 9)]] ++ [O.lst ([V.int (.ofNat 0),V.int (.ofNat 9)].drop (Int.toNat ((L.map V.int).length : Int)))] ++ [O.lst (V.int x0 :: V.int x1 :: T.map V.int)]) (by rw [← eNS]) ?_
  have g3 := last_get (h ++ [O.lst [V.int (.ofNat 0),V.int (.ofNat 9)]] ++ [O.lst ([V.int (.ofNat 0),V.int (.ofNat 9)].drop (Int.toNat ((L.map V.int).length : Int)))]) (.lst (V.int x0 :: V.int x1 :: T.map V.int))
  have l3 : (h ++ [O.lst [V.int (.ofNat 0),V.int (.ofNat 9)]] ++ [O.lst ([V.int (.ofNat 0),V.int (.ofNat 9)].drop (Int.toNat ((L.map V.int).length : Int)))] ++ [O.lst (V.int x0 :: V.int x1 :: T.map V.int)]).length = h.length + 3 := by simp only [List.length_append,List.length_cons,List.length_nil]
  generalize (h ++ [O.lst [V.int (.ofNat 0),V.int (.ofNat 9)]] ++ [O.lst ([V.int (.ofNat 0),V.int (.ofNat 9)].drop (Int.toNat ((L.map V.int).length : Int)))]).length = a2 at g3 ⊢
  generalize h ++ [O.lst [V.int (.ofNat 0),V.int (.ofNat 9)]] ++ [O.lst ([V.int (.ofNat 0),V.int (.ofNat 9)].drop (Int.toNat ((L.map V.int).length : Int)))] ++ [O.lst (V.int x0 :: V.int x1 :: T.map V.int)] = h3 at g3 l3 ⊢
  refine sig_eq (σ := [_,_,_,_,_,_,_,_,_,_]) rfl ?_
  refine ⟨rfl,_,rfl,_,_,mul_lst (k := fs * rs) (last_get _ _) rfl (Nat.le_trans hN.2 (by decide)),rfl,?_⟩
  have ha2 := (List.getElem?_eq_some_iff.mp g3).1
  have ne24 : h.length + 4 ≠ a2 := Nat.ne_of_gt (Nat.lt_trans (l3 ▸ ha2) (Nat.lt_succ_self _))
  have pC := (List.prefix_append h3 [O.lst [V.int (.ofNat 0)]]).trans (List.prefix_append _ [O.lst (List.replicate (fs * rs) (V.int (.ofNat 0)))])
  have g2 := get_pre pC g3
  have g4 : (h3 ++ [O.lst [V.int (.ofNat 0)]] ++ [O.lst (List.replicate (fs * rs) (V.int (.ofNat 0)))])[h.length + 4]? = some (.lst ((List.replicate (fs * rs) 0).map vN)) := by
    have := last_get (h3 ++ [O.lst [V.int (.ofNat 0)]]) (O.lst (List.replicate (fs * rs) (V.int (.ofNat 0))))
    rw [List.length_append,l3] at this
    rw [List.map_replicate]; exact this
  have l4 : (h3 ++ [O.lst [V.int (.ofNat 0)]] ++ [O.lst (List.replicate (fs * rs) (V.int (.ofNat 0)))]).length = h.length + 5 := by simp only [List.length_append,List.length_cons,List.length_nil,l3]
  refine sig_eq (σ := [_,_,_,_,some (.ref (h.length + 4)),_,_,_,_,_]) (by rw [show (h3 ++ [O.lst [V.int (.ofNat 0)]]).length = h.length + 4 by rw [List.length_append,l3]; rfl]; rfl) ?_
  generalize h3 ++ [O.lst [V.int (.ofNat 0)]] ++ [O.lst (List.replicate (fs * rs) (V.int (.ofNat 0)))] = h4 at g2 g4 l4 ⊢
  have hs1 : ((List.replicate (fs * rs) 0).map vN).length = fs * rs := by rw [List.length_map,List.length_replicate]
  obtain ⟨u,hu,mu⟩ : ∃ u,u < fs * rs ∧ ((w + 1 + r1) % (fs * rs) = u ∧ w ≠ u) := ⟨_,Nat.mod_lt _ np,rfl,by
    by_cases c : w + 1 + r1 < fs * rs
    · rw [Nat.mod_eq_of_lt c]; exact Nat.ne_of_lt (Nat.lt_of_lt_of_le (Nat.lt_succ_self w) (Nat.le_add_right ..))
    · have c := Nat.le_of_not_lt c
      rw [Nat.mod_eq_sub_mod c,Nat.mod_eq_of_lt (Nat.sub_lt_left_of_lt_add c (Nat.add_lt_add_of_le_of_lt hw (Nat.lt_of_lt_of_le hr1 (Nat.sub_le ..))))]
      exact Nat.ne_of_gt (Nat.sub_lt_right_of_lt_add c (by rw [Nat.add_right_comm,Nat.add_assoc]; exact Nat.add_lt_add_left (Nat.add_lt_of_lt_sub hr1) w))⟩
  have hs2 : (((List.replicate (fs * rs) 0).map vN).set w (V.int (.ofNat 6))).length = fs * rs := by rw [List.length_set,hs1]
  have e5 : (((List.replicate (fs * rs) 0).map vN).set w (V.int (.ofNat 6))).set u (V.int (.ofNat 14)) = ((((List.replicate (fs * rs) 0).set w 6).set u 14).map vN) := by rw [List.map_set,List.map_set]; rfl
  have B0 := Brd0.first hw hu mu.2
  have mw2 : binInt .Mod ((w : Int) + Int.ofNat 1 + (r1 : Int)) ((fs * rs : Nat) : Int) = some (u : Int) := by rw [← mu.1]; exact mod_ok (x := w + 1 + r1) rfl rfl np
  have mr2 : binInt .Mod x1 (((fs * rs : Nat) : Int) - Int.ofNat 1) = some (r1 : Int) := by rw [← mr1]; congr 1; exact cast_sub np
  refine ⟨_,rfl,_,sub_lst (v := .ref a2) g2 (by decide) (by decide) rfl,_,rfl,_,mw,rfl,_,rfl,_,rfl,_,set_lst g4 rfl (by rw [hs1]; exact hw) (big hw hN.2),?_⟩
  refine ⟨_,rfl,_,rfl,_,rfl,_,sub_lst (v := .ref a2) ((set_ne ne24).trans g2) (by decide) (by decide) rfl,_,rfl,_,mr2,_,rfl,_,mw2,_,set_lst (set_get g4) rfl (by rw [hs2]; exact hu) (big hu hN.2),?_⟩
  rw [e5,List.set_set]
  have l5 : (h4.set (h.length + 4) (.lst ((((List.replicate (fs * rs) 0).set w 6).set u 14).map vN))).length = h.length + 5 := by rw [List.length_set,l4]
  have g5 := set_get (o' := .lst ((((List.replicate (fs * rs) 0).set w 6).set u 14).map vN)) g4
  have g6 := (set_ne (o := .lst ((((List.replicate (fs * rs) 0).set w 6).set u 14).map vN)) ne24).trans g2
  generalize h4.set (h.length + 4) (.lst ((((List.replicate (fs * rs) 0).set w 6).set u 14).map vN)) = h5 at l5 g5 g6 ⊢
  generalize ((List.replicate (fs * rs) 0).set w 6).set u 14 = b0 at B0 g5
  refine sig_eq (σ := [_,_,_,_,_,_,_,_,_,_]) rfl ?_
  refine ⟨_,rfl,_,_,rfl,g6,⟨by decide,by rw [List.length_cons,List.length_cons,List.length_map]; exact Nat.le_trans (Nat.add_le_add_right (Nat.add_le_add_right hT 1) 1) (by decide)⟩,_,_,last_get h5 _,rfl,for_wp (J63a h fs rs a2 h5 T w u) _ (fun x xs σ h' j => ?_) (fun σ h' j => ?_) ⟨T,b0,_,_,_,_,rfl,rfl,by rw [List.length_append,l5]; rfl,get_pre (List.prefix_append _ _) g5,last_get h5 _,B0⟩⟩
  · obtain ⟨K,b,o6,o7,o8,o9,eK,rfl,lh,gb,gt,B⟩ := j
    cases K with
    | nil => cases eK
    | cons k K =>
      obtain ⟨rfl,rfl⟩ := List.cons.inj eK
      obtain ⟨t,ht,mt⟩ := modz (x := k) (N := fs * rs) np
      have dN := divz (x := k) (N := fs * rs) np (Nat.lt_of_le_of_lt hN.2 (by decide))
      obtain ⟨r,hr5,mr⟩ := modz (x := k.fdiv ((fs * rs : Nat) : Int)) (N := 5) (by decide)
      have dt : binInt .FloorDiv (t : Int) (fs : Int) = some ((t / fs : Nat) : Int) := div_ok rfl rfl D.pos (Nat.lt_of_le_of_lt hf.2 (by decide))
      have hbl : t < (b.map vN).length := by rw [List.length_map,B.len]; exact ht
      have gc : getSub (P0 sa zs).C h' (.ref (h.length + 4)) (.int (t : Int)) = some (vN (cell b t)) := sq_at (v := .ref _) gb rfl (by rw [B.len]; exact ht) (big ht hN.2)
      refine ⟨stable_of (v := .ref _) gt,(show 6 < 10 by decide),_,rfl,_,rfl,_,mt,rfl,_,rfl,_,rfl,_,dN,_,mr,rfl,?_⟩
      refine sig_eq (σ := [_,_,_,_,_,_,_,_,_,_]) rfl ?_
      refine wSs_assign (orB (fun Q c => ⟨_,rfl,_,rfl,_,dt,c⟩) (fun Q c => ⟨_,rfl,_,rfl,_,dt,_,rfl,c⟩) ⟨rfl,?_⟩)
      refine sig_eq (σ := [_,_,_,_,_,_,_,_,_,_]) rfl ?_
      refine ite_tst (tst_and (fun Q c => ⟨_,rfl,_,rfl,_,gc,c _ (congrArg some eq_int)⟩) fun z => tst_not (tst_and (fun Q c => ⟨_,rfl,c _ rfl⟩) fun _ Q c => ⟨_,rfl,c _ rfl⟩)) (fun z => ?_) (fun z => ?_)
      · obtain ⟨z1,z2⟩ := Bool.and_eq_true_iff.mp z
        have hN5 : binInt .Mult ((fs * rs : Nat) : Int) (Int.ofNat 5) = some ((fs * rs * 5 : Nat) : Int) := mul_ok (small_nat (Nat.lt_of_le_of_lt hN.2 (by decide)))
        have d5 := divz (x := k) (N := fs * rs * 5) (Nat.mul_pos np (by decide)) (Nat.lt_of_le_of_lt (Nat.mul_le_mul_right 5 hN.2) (by decide))
        obtain ⟨r2,hr2,mr2'⟩ := modz (x := k.fdiv ((fs * rs * 5 : Nat) : Int)) (N := 2) (by decide)
        have hv : V.int (Int.ofNat 1 + (r : Int) + (r2 : Int) * Int.ofNat 8) = vN (1 + r + r2 * 8) := rfl
        refine ⟨_,rfl,_,rfl,_,rfl,_,hN5,_,d5,_,mr2',_,mulr_ok rfl,_,rfl,_,rfl,_,set_lst gb rfl hbl (big ht hN.2),?_⟩
        rw [hv]
        refine ⟨K,b.set t (1 + r + r2 * 8),_,_,_,_,rfl,rfl,by rw [List.length_set]; exact lh,by rw [set_get gb,List.map_set],?_,?_⟩
        · refine (set_ne ?_).trans gt
          rw [l5]; exact Nat.ne_of_lt (Nat.lt_succ_self _)
        · refine B.set ht (beq_iff'.mp z1) ⟨Nat.le_add_right 1 r,Nat.add_comm .. ▸ hr5⟩ hr2 fun h1 => ?_
          have r0 : r = 0 := Nat.add_left_cancel (n := 1) (m := r) (k := 0) h1
          subst r0
          have z3 := (Bool.not_eq_true' _).mp z2
          have z4 : (((t / fs : Nat) : Int) == Int.ofNat 0 || ((t / fs : Nat) : Int) == (rs : Int) - Int.ofNat 1) = false := z3
          obtain ⟨z5,z6⟩ := Bool.or_eq_false_iff.mp z4
          have hlt : t / fs < rs := Nat.div_lt_of_lt_mul ht
          clear z2 z3 z4 mt gc hbl dt
          generalize t / fs = y at z5 z6 hlt ⊢
          refine ⟨?_,?_⟩
          · have : y ≠ 0 := beq_ff.mp (eq_int.symm.trans z5)
            exact Nat.pos_of_ne_zero this
          · have z7 : (y : Int) ≠ (rs : Int) - 1 := fun e => Bool.eq_false_iff.mp z6 (beq_iff_eq.mpr e)
            exact succ_lt' hlt fun e => z7 (by rw [e]; exact (cast_sub (Nat.le_trans (by decide) hr.1)).symm)
      · exact ⟨K,b,_,_,_,_,rfl,rfl,lh,gb,gt,B⟩
  · obtain ⟨K,b,o6,o7,o8,o9,eK,rfl,lh,gb,gt,B⟩ := j
    exact ⟨stable_of (v := .ref _) gt,_,rfl,b,rfl,lh,gb,B.good D hw hu⟩
end
theorem mid_get {h os : H} {c k : Nat} {fs : List (Nat × V)} : getAttr (h ++ (.inst c (h.length + 1) :: .dct fs :: os)) (.ref h.length) k = lookF k fs := by
  exact bC_mk (app_at h (.inst c (h.length + 1) :: .dct fs :: os) 0) (bD_mk (app_at h (.inst c (h.length + 1) :: .dct fs :: os) 1) rfl)
theorem mid_set {h0 h os : H} {c k : Nat} {fs : List (Nat × V)} {x y : V} (e : h0 = h ++ (.inst c (h.length + 1) :: .dct fs :: os)) (ex : x = y) (hl : Nat.blt fs.length 100 = true) : setAttr h0 (.ref h.length) k x = some (h ++ (.inst c (h.length + 1) :: .dct (putF k y fs) :: os)) := by
  subst e ex
  refine bC_mk (app_at h (.inst c (h.length + 1) :: .dct fs :: os) 0) (bD_mk (app_at h (.inst c (h.length + 1) :: .dct fs :: os) 1) ((if_pos (show fs.length < 100 from Nat.le_of_ble_eq_true hl)).trans ?_))
  rw [app_set]; rfl
noncomputable def posF (g z : V) (l : Nat) (side key : Int) : List (Nat × V) := [(14,g),(15,z),(16,.ref (l + 3)),(17,.ref (l + 5)),(18,.ref (l + 6)),(19,.int side),(20,.int 0),(21,.int (-1)),(22,.int 0),(3,.int 1),(23,.int key),(24,.ref (l + 7))]
noncomputable def PH (hZ : H) (g z : V) (side key : Int) (X : List Nat) (Kd Sd : List Int) : H := hZ ++ (.inst 2 (hZ.length + 1) :: .dct (posF g z hZ.length side key) :: [.lst [.int 0],.lst (X.map vN),.lst [.int 0],.lst (Kd.map .int),.lst (Sd.map .int),.lst []])
section
variable {sa : Nat} {zs : List Int} {n : Nat} {h : H}
theorem t4 (hn : 4 < n) {a b c d : V} : callN (P0 sa zs) fnT n 4 [.ref h.length,a,b,c,d] (h ++ [.inst 4 (h.length + 1),.dct []]) = some (.none,h ++ [.inst 4 (h.length + 1),.dct [(29,a),(21,b),(20,c),(19,d)]]) := by
  have key : Meets (P0 sa zs) n 4 [.ref h.length,a,b,c,d] (h ++ [.inst 4 (h.length + 1),.dct []]) fun v h' => v = .none ∧ h' = h ++ [.inst 4 (h.length + 1),.dct [(29,a),(21,b),(20,c),(19,d)]] :=
    call_wp m4 hn ⟨rfl,_,rfl,_,rfl,_,new_set h 4 _ _ _ rfl,_,rfl,_,rfl,_,new_set h 4 _ _ _ rfl,_,rfl,_,rfl,_,new_set h 4 _ _ _ rfl,_,rfl,_,rfl,_,new_set h 4 _ _ _ rfl,rfl,rfl⟩
  obtain ⟨v,h',e,rfl,rfl⟩ := key
  exact e
variable {fs rs : Nat} {hd : Bool} {g : V} (G : GeoAt (P0 sa zs).C h g fs rs hd) (D : Dim fs rs)
include G D
theorem t2 (hn : 2 < n) {z : V} : callN (P0 sa zs) fnT n 2 [.ref h.length,g,z] (h ++ [.inst 2 (h.length + 1),.dct []]) = some (.none,PH h g z 0 0 (List.replicate (fs * rs) 0) (List.replicate 7 0) [0,0]) := by
  have hN := D.size
  let i : O := .inst 2 (h.length + 1)
  let d1 : O := .dct [(14,g),(15,z)]
  let r3 := V.ref (h.length + 3)
  let r5 := V.ref (h.length + 5)
  let r6 := V.ref (h.length + 6)
  let d2 : O := .dct [(14,g),(15,z),(16,r3)]
  let d3 : O := .dct [(14,g),(15,z),(16,r3),(17,r5)]
  let o1 : O := .lst [.int 0]
  let o2 : O := .lst (List.replicate (fs * rs) (.int 0))
  let o4 : O := .lst (List.replicate 7 (.int 0))
  let o5 : O := .lst [.int 0,.int 0]
  have hsz : getAttr (h ++ [i,d1] ++ [o1]) g 2 = some (vN (fs * rs)) := by rw [List.append_assoc]; exact (G.mono (List.prefix_append _ _)).size
  have a1 : h ++ [i,d1] ++ [o1] ++ [o2] = h ++ (i :: d1 :: [o1,o2]) := by rw [List.append_assoc,List.append_assoc]; rfl
  have x1 : V.ref (h ++ [i,d1] ++ [o1]).length = r3 := congrArg V.ref (by rw [List.length_append,List.length_append]; rfl)
  have a2 : h ++ (i :: d2 :: [o1,o2]) ++ [o1] ++ [o4] = h ++ (i :: d2 :: [o1,o2,o1,o4]) := by rw [List.append_assoc,List.append_assoc]; rfl
  have x2 : V.ref (h ++ (i :: d2 :: [o1,o2]) ++ [o1]).length = r5 := congrArg V.ref (by rw [List.length_append,List.length_append]; rfl)
  have a3 : h ++ (i :: d3 :: [o1,o2,o1,o4]) ++ [o5] = h ++ (i :: d3 :: [o1,o2,o1,o4,o5]) := by rw [List.append_assoc]; rfl
  have x3 : V.ref (h ++ (i :: d3 :: [o1,o2,o1,o4])).length = r6 := congrArg V.ref (by rw [List.length_append]; rfl)
  let L5 := [o1,o2,o1,o4,o5]
  let f4 := [(14,g),(15,z),(16,r3),(17,r5),(18,r6)]
  let f5 := f4 ++ [(19,V.int 0),(20,.int 0),(21,.int (-1)),(22,.int 0),(3,.int 1),(23,.int 0)]
  have a4 : h ++ (i :: .dct f5 :: L5) ++ [.lst []] = h ++ (i :: .dct f5 :: (L5 ++ [.lst []])) := by rw [List.append_assoc]; rfl
  have x4 : V.ref (h ++ (i :: .dct f5 :: L5)).length = .ref (h.length + 7) := congrArg V.ref (by rw [List.length_append]; rfl)
  suffices key : Meets (P0 sa zs) n 2 [.ref h.length,g,z] (h ++ [.inst 2 (h.length + 1),.dct []]) fun v h' => v = .none ∧ h' = PH h g z 0 0 (List.replicate (fs * rs) 0) (List.replicate 7 0) [0,0] by
    obtain ⟨v,h',e,rfl,rfl⟩ := key; exact e
  refine call_wp m2 hn ⟨rfl,_,rfl,_,rfl,_,new_set h 2 [] 14 g rfl,_,rfl,_,rfl,_,new_set h 2 [(14,g)] 15 z rfl,?_⟩
  refine sig_eq (σ := [_,_,_]) rfl ?_
  refine ⟨rfl,_,rfl,_,hsz,_,_,mul_lst (k := fs * rs) (last_get _ _) rfl (Nat.le_trans D.size.2 (by decide)),_,rfl,_,mid_set (os := [o1,o2]) a1 x1 rfl,?_⟩
  refine ⟨rfl,_,_,mul_lst (k := 7) (last_get _ _) rfl (by decide),_,rfl,_,mid_set (os := [o1,o2,o1,o4]) a2 x2 rfl,?_⟩
  refine ⟨rfl,_,rfl,_,mid_set (os := L5) a3 x3 rfl,?_⟩
  refine ⟨_,rfl,_,mid_set (os := L5) rfl rfl rfl,_,rfl,_,mid_set (os := L5) rfl rfl rfl,_,rfl,_,rfl,_,mid_set (os := L5) rfl rfl rfl,_,rfl,_,mid_set (os := L5) rfl rfl rfl,_,rfl,_,mid_set (os := L5) rfl rfl rfl,_,rfl,_,mid_set (os := L5) rfl rfl rfl,?_⟩
  refine heap_eq (h2 := h ++ (i :: .dct f5 :: L5)) rfl ?_
  refine ⟨rfl,_,rfl,_,mid_set (os := L5 ++ [.lst []]) a4 x4 rfl,?_⟩
  refine ⟨rfl,?_⟩
  unfold PH
  rw [List.map_replicate,List.map_replicate]
  rfl
end
theorem put_sub {hZ L : H} {i k : Nat} {xs : List V} {x : Int} {v : V} (e : L[i]? = some (.lst xs)) (hx : x = k) (hk : k < xs.length) (hm : k ≤ 1000000) : setSub (hZ ++ L) (.ref (hZ.length + i)) (.int x) v = some (hZ ++ L.set i (.lst (xs.set k v))) := by
  rw [set_lst ((app_at hZ L i).trans e) hx hk hm,app_set]
theorem get_sub {C : Nat → Option O} {hZ L : H} {i k : Nat} {xs : List V} {x : Int} {v : V} (e : L[i]? = some (.lst xs)) (hx : x = k) (hm : k ≤ 1000000) (hv : xs[k]? = some v) : getSub C (hZ ++ L) (.ref (hZ.length + i)) (.int x) = some v := by
  subst hx
  exact sub_lst (v := .ref _) ((app_at hZ L i).trans e) (Int.natCast_nonneg k) (Int.ofNat_le.mpr hm) (by rw [Int.toNat_natCast]; exact hv)
noncomputable def S2 (N : Nat) (S : Nat → Nat → Bool) : List Int := [mk N (S 0),mk N (S 1)]
structure ZF (C : Nat → Option O) (hZ : H) (z : V) (N : Nat) : Prop where
  zp : ∃ zp,getAttr hZ z 29 = some zp ∧ ∀ c,c < 15 → ∃ row,getSub C hZ zp (.int (c : Nat)) = some row ∧ ∀ q,q < N → getSub C hZ row (.int (q : Nat)) = some (.int 0)
section
variable {sa : Nat} {zs : List Int} {n : Nat} {h : H}
theorem e10 (hn : 10 < n) {x : Int} {c : Nat} (hx : x = c) : callN (P0 sa zs) fnT n 10 [.int x] h = some (vN (c / 8),h) := by
  subst hx
  rw [gives_of (t10 hn)]
  show some (V.int ((c : Int).fdiv (8 : Nat)),h) = _
  rw [Int.fdiv_eq_ediv_of_nonneg _ (Int.natCast_nonneg _)]; rfl
theorem t29 (hn : 29 < n) {hZ : H} {g z : V} {side key : Int} {N c q : Nat} {X : List Nat} {K S : Nat → Nat → Bool} (hN : N ≤ 30) (hX : X.length = N) (hq : q < N) (hc : c < 15) (hc7 : c % 8 < 7) (ZZ : ZF (P0 sa zs).C hZ z N) :
    ∃ key',callN (P0 sa zs) fnT n 29 [.ref hZ.length,vN c,vN q] (PH hZ g z side key X (l7 N K) (S2 N S)) = some (.none,PH hZ g z side key' (X.set q c) (l7 N fun j t => if j = c % 8 then K j t || Nat.beq q t else K j t) (S2 N fun j t => if j = c / 8 then S j t || Nat.beq q t else S j t)) := by
  obtain ⟨zp,za,zr⟩ := ZZ.zp
  obtain ⟨row,r1,r2⟩ := zr c hc
  suffices key : Meets (P0 sa zs) n 29 [.ref hZ.length,vN c,vN q] (PH hZ g z side key X (l7 N K) (S2 N S)) fun v h' => v = .none ∧ ∃ key',h' = PH hZ g z side key' (X.set q c) (l7 N fun j t => if j = c % 8 then K j t || Nat.beq q t else K j t) (S2 N fun j t => if j = c / 8 then S j t || Nat.beq q t else S j t) by
    obtain ⟨v,h',e,rfl,k',rfl⟩ := key; exact ⟨k',e⟩
  let i : O := .inst 2 (hZ.length + 1)
  let d : O := .dct (posF g z hZ.length side key)
  let o : O := .lst [.int 0]
  let f : O := .lst []
  let L0 : H := [o,.lst (X.map vN),o,.lst ((l7 N K).map .int),.lst ((S2 N S).map .int),f]
  let L1 : H := [o,.lst ((X.set q c).map vN),o,.lst ((l7 N K).map .int),.lst ((S2 N S).map .int),f]
  let L2 : H := [o,.lst ((X.set q c).map vN),o,.lst ((l7 N fun j t => if j = c % 8 then K j t || Nat.beq q t else K j t).map .int),.lst ((S2 N S).map .int),f]
  let L3 : H := [o,.lst ((X.set q c).map vN),o,.lst ((l7 N fun j t => if j = c % 8 then K j t || Nat.beq q t else K j t).map .int),.lst ((S2 N fun j t => if j = c / 8 then S j t || Nat.beq q t else S j t).map .int),f]
  have pz : ∀ L : H,hZ <+: hZ ++ L := fun L => List.prefix_append _ _
  have s1 : setSub (hZ ++ (i :: d :: L0)) (.ref (hZ.length + 3)) (.int (q : Int)) (vN c) = some (hZ ++ (i :: d :: L1)) := by
    rw [put_sub (i := 3) (L := i :: d :: L0) (xs := X.map vN) rfl rfl (by rw [List.length_map,hX]; exact hq) (big hq hN),← List.map_set]; rfl
  have g2 : getSub (P0 sa zs).C (hZ ++ (i :: d :: L1)) (.ref (hZ.length + 5)) (.int ((c % 8 : Nat) : Int)) = some (.int (mk N (K (c % 8)))) :=
    get_sub (i := 5) (xs := (l7 N K).map .int) rfl rfl (big_lt hc7) (by rw [List.getElem?_map,l7_at hc7]; rfl)
  have s2 : setSub (hZ ++ (i :: d :: L1)) (.ref (hZ.length + 5)) (.int ((c % 8 : Nat) : Int)) (.int (mk N fun t => K (c % 8) t || Nat.beq q t)) = some (hZ ++ (i :: d :: L2)) := by
    rw [put_sub (i := 5) (L := i :: d :: L1) (xs := (l7 N K).map .int) rfl rfl (by rw [List.length_map,l7_len]; exact hc7) (big_lt hc7),l7_set]
    have e : (l7 N fun j t => if j = c % 8 then K (c % 8) t || Nat.beq q t else K j t) = l7 N fun j t => if j = c % 8 then K j t || Nat.beq q t else K j t := l7_congr fun k _ t _ => by
      by_cases h : k = c % 8
      · rw [if_pos h,if_pos h,h]
      · rw [if_neg h,if_neg h]
    rw [e]; rfl
  have hc8 : c / 8 < 2 := Nat.div_lt_of_lt_mul (Nat.lt_of_lt_of_le hc (by decide))
  have g3 : getSub (P0 sa zs).C (hZ ++ (i :: d :: L2)) (.ref (hZ.length + 6)) (.int ((c / 8 : Nat) : Int)) = some (.int (mk N (S (c / 8)))) :=
    get_sub (i := 6) (xs := (S2 N S).map .int) rfl rfl (big_lt hc8) (by rcases (two_ways hc8) with e | e <;> rw [e] <;> rfl)
  have s3 : setSub (hZ ++ (i :: d :: L2)) (.ref (hZ.length + 6)) (.int ((c / 8 : Nat) : Int)) (.int (mk N fun t => S (c / 8) t || Nat.beq q t)) = some (hZ ++ (i :: d :: L3)) := by
    rw [put_sub (i := 6) (L := i :: d :: L2) (xs := (S2 N S).map .int) rfl rfl (Nat.lt_of_lt_of_le hc8 (Nat.le_refl 2)) (big_lt hc8)]
    have e : ((S2 N S).map V.int).set (c / 8) (.int (mk N fun t => S (c / 8) t || Nat.beq q t)) = (S2 N fun j t => if j = c / 8 then S j t || Nat.beq q t else S j t).map .int := by
      rcases (two_ways hc8) with e | e <;> rw [e] <;> rfl
    rw [e]; rfl
  have hsh := shl_ok (a := Int.ofNat 1) (b := (q : Int)) (c := q) rfl (Nat.le_trans (Nat.le_of_lt hq) (Nat.le_trans hN (by decide))) rfl
  have or1 : ∀ p : Nat → Bool,Builtin.bitOr (mk N p) (Int.ofNat 1 * 2 ^ q) = mk N fun t => p t || Nat.beq q t := fun p => by rw [one_mk hq,or_mk]
  refine call_wp m29 hn ⟨rfl,_,rfl,_,hsh,rfl,_,rfl,_,rfl,_,mid_get,_,rfl,_,s1,?_⟩
  refine sig_eq (σ := [_,_,_,_]) rfl ?_
  refine ⟨_,rfl,_,mid_get,_,rfl,_,_,e11 (by decide) rfl,_,g2,_,rfl,_,(by rw [or1]; exact s2),?_⟩
  refine ⟨_,rfl,_,mid_get,_,rfl,_,_,e10 (by decide) rfl,_,g3,_,rfl,_,(by rw [or1]; exact s3),?_⟩
  refine ⟨_,rfl,_,mid_get,_,rfl,_,mid_get,_,attr_pre (pz _) za,_,rfl,_,sub_pre (pz _) r1,_,rfl,_,sub_pre (pz _) (r2 q hq),_,mid_set (os := L3) rfl rfl rfl,rfl,_,rfl⟩
end
theorem cell_ext {X b : List Nat} (hl : X.length = b.length) (h : ∀ t,t < b.length → cell X t = cell b t) : X = b := by
  refine List.ext_getElem hl fun t h1 h2 => ?_
  have := h t h2
  unfold cell at this
  rw [List.getD_eq_getElem?_getD,List.getD_eq_getElem?_getD,List.getElem?_eq_getElem h1,List.getElem?_eq_getElem h2] at this
  exact this
theorem con_cons {q t : Nat} {K : List Nat} : (q :: K).contains t = (Nat.beq q t || K.contains t) := by
  rw [Bool.eq_iff_iff,List.contains_iff_mem,List.mem_cons,Bool.or_eq_true,beq_iff',List.contains_iff_mem]
  exact ⟨fun h => h.imp Eq.symm id,fun h => h.imp Eq.symm id⟩
section
variable {sa : Nat} {zs : List Int} {n : Nat} {h : H} {fs rs : Nat} {b : List Nat} {hd : Bool} {g : V}
theorem zlists (D : Dim fs rs) (G : GeoAt (P0 sa zs).C h g fs rs hd) {F : Call} {σ : Sig} (eg : σ[0]? = some (some g)) :
    ∃ h1,compL (compG (fun x h => evT (P0 sa zs) F .nil (some x :: σ) h) (fun x h => ev (P0 sa zs) F (.bin .Mult (.lst (.cons (.const (.int (.ofNat 0))) .nil)) (.attr (.var 1) 2)) (some x :: σ) h)) (fun _ => true) ((rangeList 0 (Int.ofNat 15) 1).map .int) h = some ((List.range 15).map fun i => V.ref (h.length + 2 * i + 1),h1) ∧ h <+: h1 ∧ ∀ j,j < 15 → h1[h.length + 2 * j + 1]? = some (.lst (List.replicate (fs * rs) (.int 0))) := by
  have hN := D.size
  have es : (σ : Sig)[0]? = some (some g) := eg
  obtain ⟨h1,e1,i,hi,hx,p1,l1,q1⟩ := comp_wp (P := P0 sa zs) (F := F) (elt := .bin .Mult (.lst (.cons (.const (.int (.ofNat 0))) .nil)) (.attr (.var 1) 2)) (ifs := .nil) (ok := fun _ => true) (σ := σ)
    (fun xs h' => ∃ i,i ≤ 15 ∧ xs = (List.range' i (15 - i)).map vN ∧ h <+: h' ∧ h'.length = h.length + 2 * i ∧ ∀ j,j < i → h'[h.length + 2 * j + 1]? = some (.lst (List.replicate (fs * rs) (.int 0))))
    (fun v => match v with | .int (.ofNat i) => some (V.ref (h.length + 2 * i + 1)) | _ => none) (fun x xs h' j => by
      obtain ⟨i,hi,hx,p,l,q⟩ := j
      have hi' : i < 15 := by
        refine Nat.lt_of_le_of_ne hi fun e => ?_
        subst e; cases hx
      rw [show 15 - i = (14 - i) + 1 from Nat.succ_sub (Nat.le_of_lt_succ hi'),List.range'_succ,List.map_cons] at hx
      obtain ⟨rfl,rfl⟩ := List.cons.inj hx
      have e2 : (h' ++ [O.lst [V.int (.ofNat 0)]]).length = h.length + 2 * i + 1 := by rw [List.length_append,l]; rfl
      have e3 := last_get (h' ++ [O.lst [V.int (.ofNat 0)]]) (.lst (List.replicate (fs * rs) (.int (.ofNat 0))))
      rw [e2] at e3
      have p2 := (List.prefix_append h' [O.lst [V.int (.ofNat 0)]]).trans (List.prefix_append _ [O.lst (List.replicate (fs * rs) (V.int (.ofNat 0)))])
      refine ⟨rfl,fun _ => ⟨rfl,_,eg,_,((G.mono p).mono (List.prefix_append _ _)).size,_,_,mul_lst (k := fs * rs) (last_get _ _) rfl (Nat.le_trans D.size.2 (by decide)),congrArg (fun k => some (V.ref k)) e2.symm,i + 1,hi',?_,p.trans p2,?_,fun j hj => ?_⟩,nofun⟩
      · rw [show 15 - (i + 1) = 14 - i from Nat.succ_sub_succ 14 i]
      · rw [List.length_append,e2]; rfl
      · by_cases c : j = i
        · subst c; exact e3
        · exact get_pre p2 (q j (Nat.lt_of_le_of_ne (Nat.le_of_lt_succ hj) c))) (fun _ _ => rfl) (xs := (List.range 15).map vN) (h := h) ⟨0,by decide,by rw [List.range_eq_range'],List.prefix_refl _,rfl,fun j hj => absurd hj (Nat.not_lt_zero _)⟩
  have hi' : i = 15 := by
    refine Nat.le_antisymm hi (Nat.le_of_not_lt fun c => ?_)
    rw [show 15 - i = (14 - i) + 1 from Nat.succ_sub (Nat.le_of_lt_succ c),List.range'_succ] at hx
    cases hx
  subst hi'
  refine ⟨h1,?_,p1,q1⟩
  rw [range_zero (show Int.ofNat 15 = ((15 : Nat) : Int) from rfl),e1,List.filterMap_map]
  exact congrArg (fun l => some (l,h1)) (congrFun (List.filterMap_eq_map (f := fun i => V.ref (h.length + 2 * i + 1))) (List.range 15))
end
theorem PH_lst {hZ : H} {g z : V} {side key : Int} {X : List Nat} {K S : List Int} : (PH hZ g z side key X K S)[hZ.length + 3]? = some (.lst (X.map vN)) ∧ (PH hZ g z side key X K S)[hZ.length + 5]? = some (.lst (K.map .int)) ∧ (PH hZ g z side key X K S)[hZ.length + 6]? = some (.lst (S.map .int)) :=
  ⟨app_at hZ _ 3,app_at hZ _ 5,app_at hZ _ 6⟩
theorem zer7 (N : Nat) : List.replicate 7 (0 : Int) = l7 N fun _ _ => false := by
  show _ = (List.range 7).map fun _ => mk N fun _ => false
  rw [mk_nil]; rfl
theorem zer2 (N : Nat) : [(0 : Int),0] = S2 N fun _ _ => false := by
  show _ = [mk N fun _ => false,mk N fun _ => false]
  rw [mk_nil]
section
variable {sa : Nat} {zs : List Int} {n : Nat} {h : H} {fs rs : Nat} {b : List Nat} {hd : Bool} {g bd : V}
theorem pos_of {hZ : H} {z : V} {x key : Int} {K S : Nat → Nat → Bool} (G : GeoAt (P0 sa zs).C hZ g fs rs hd) (hK : ∀ k t,k < 7 → t < fs * rs → K k t = kindB b k t) (hS : ∀ s t,s < 2 → t < fs * rs → S s t = ownB b s t) :
    PosAt (P0 sa zs).C (PH hZ g z x key b (l7 (fs * rs) K) (S2 (fs * rs) S)) (.ref hZ.length) fs rs hd b where
  geo := ⟨g,mid_get,G.mono (List.prefix_append _ _)⟩
  board := ⟨.ref (hZ.length + 3),mid_get,by
    show (PH hZ g z x key b (l7 (fs * rs) K) (S2 (fs * rs) S))[hZ.length + 3]? = _
    rw [PH_lst.1,List.map_map]; rfl⟩
  kinds := ⟨.ref (hZ.length + 5),l7 (fs * rs) K,mid_get,PH_lst.2.1,fun k hk => by rw [l7_at hk]; exact congrArg some (mk_congr fun t ht => hK k t hk ht)⟩
  sides := ⟨.ref (hZ.length + 6),mid_get,by
    refine PH_lst.2.2.trans ?_
    unfold S2
    rw [mk_congr fun t ht => hS 0 t (by decide) ht,mk_congr fun t ht => hS 1 t (by decide) ht]⟩
noncomputable def Put (hZ : H) (g z : V) (fs rs : Nat) (b : List Nat) (K : List Nat) (h' : H) : Prop := ∃ (X : List Nat) (key : Int) (KD SD : Nat → Nat → Bool),h' = PH hZ g z 0 key X (l7 (fs * rs) KD) (S2 (fs * rs) SD) ∧ X.length = fs * rs ∧ (∀ t,t < fs * rs → cell X t = bif K.contains t then 0 else cell b t) ∧
  (∀ k t,k < 7 → t < fs * rs → KD k t = (!K.contains t && kindB b k t)) ∧ (∀ s t,s < 2 → t < fs * rs → SD s t = (!K.contains t && ownB b s t))
inductive J64a (fs : Nat) (rs : Nat) (b : List Nat) (g : V) (bd : V) (x : Int) (h1 : H) (hZ : H) (z : V) (K : List Nat) (σ : Sig) (h' : H) : Prop
  | mk  (c0 : ∃ o5,σ = [some g,some bd,some (.int x),some (.ref h1.length),some (.ref hZ.length),o5]) (c1 : Put hZ g z fs rs b K h') (c2 : K.Nodup) (c3 : ∀ t ∈ K,t < fs * rs) : J64a fs rs b g bd x h1 hZ z K σ h'
theorem put_no {hZ : H} {z : V} {q : Nat} {K : List Nat} {h' : H} (P : Put hZ g z fs rs b (q :: K) h') (h0 : cell b q = 0) : Put hZ g z fs rs b K h' := by
  obtain ⟨X,key,KD,SD,rfl,hX,c,ck,cs⟩ := P
  have ho : occB b q = false := by unfold occB; rw [h0]; rfl
  refine ⟨X,key,KD,SD,rfl,hX,fun t ht => ?_,fun k t hk ht => ?_,fun s t hs ht => ?_⟩
  · rw [c t ht,con_cons]
    by_cases e : q = t
    · subst e; rw [Nat.beq_refl,h0]; cases K.contains q <;> rfl
    · rw [beq_ff.mpr e]; rfl
  · rw [ck k t hk ht,con_cons]
    by_cases e : q = t
    · subst e; unfold kindB; rw [ho,Bool.false_and,Bool.and_false,Bool.and_false]
    · rw [beq_ff.mpr e]; rfl
  · rw [cs s t hs ht,con_cons]
    by_cases e : q = t
    · subst e; unfold ownB; rw [ho,Bool.false_and,Bool.and_false,Bool.and_false]
    · rw [beq_ff.mpr e]; rfl
variable (Y : Good fs rs b)
include Y
theorem put_yes {hZ : H} {z : V} {q : Nat} {K : List Nat} {h' : H} (P : Put hZ g z fs rs b (q :: K) h') (hn : 29 < n) (hq : q < fs * rs) (nq : q ∉ K) (h0 : cell b q ≠ 0) (ZZ : ZF (P0 sa zs).C hZ z (fs * rs)) :
    ∃ h2,callN (P0 sa zs) fnT n 29 [.ref hZ.length,vN (cell b q),vN q] h' = some (.none,h2) ∧ Put hZ g z fs rs b K h2 := by
  have hN := Y.dim.size
  obtain ⟨X,key,KD,SD,rfl,hX,c,ck,cs⟩ := P
  have hk7 := (Y.ok q).1
  have hc15 : cell b q < 15 := cell_lt Y q
  have ho : occB b q = true := by unfold occB; rw [beq_ff.mpr h0]; rfl
  have nc : K.contains q = false := by rw [Bool.eq_false_iff,Ne,List.contains_iff_mem]; exact nq
  obtain ⟨key',e⟩ := t29 (sa := sa) (zs := zs) (n := n) (g := g) (side := 0) (key := key) (K := KD) (S := SD) hn hN.2 hX hq hc15 hk7 ZZ
  refine ⟨_,e,_,key',_,_,rfl,by rw [List.length_set]; exact hX,fun t ht => ?_,fun k t hk ht => ?_,fun s t hs ht => ?_⟩
  · rw [cell_set (by rw [hX]; exact hq)]
    by_cases e : q = t
    · subst e; rw [Nat.beq_refl,nc]; rfl
    · rw [beq_ff.mpr e,c t ht,con_cons,beq_ff.mpr e]; rfl
  · rw [ck k t hk ht,con_cons]
    by_cases e : q = t
    · subst e
      rw [Nat.beq_refl,nc]
      unfold kindB
      rw [ho]
      by_cases j : k = cell b q % 8
      · rw [if_pos j,j,Nat.beq_refl]; rfl
      · rw [if_neg j,beq_ff.mpr (fun z => j z.symm)]; rfl
    · rw [beq_ff.mpr e,Bool.or_false,ite_self]; rfl
  · rw [cs s t hs ht,con_cons]
    by_cases e : q = t
    · subst e
      rw [Nat.beq_refl,nc]
      unfold ownB
      rw [ho]
      by_cases j : s = cell b q / 8
      · rw [if_pos j,j,Nat.beq_refl]; rfl
      · rw [if_neg j,beq_ff.mpr (fun z => j z.symm)]; rfl
    · rw [beq_ff.mpr e,Bool.or_false,ite_self]; rfl
theorem t64 (hn : 64 < n) (G : GeoAt (P0 sa zs).C h g fs rs hd) (eb : SqL (P0 sa zs).C h bd b) {x : Int} : Meets (P0 sa zs) n 64 [g,bd,.int x] h fun v h' => h <+: h' ∧ PosAt (P0 sa zs).C h' v fs rs hd b := by
  have D := Y.dim
  have hN := D.size
  obtain ⟨h1,e1,p1,q1⟩ := zlists (sa := sa) (zs := zs) (F := callN (P0 sa zs) fnT 64) (σ := [some g,some bd,some (.int x),none,none,none]) D G rfl
  let R := (List.range 15).map fun i => V.ref (h.length + 2 * i + 1)
  let hA := h1 ++ [O.lst R] ++ [O.lst [V.int (.ofNat 0)]] ++ [O.lst (List.replicate fs (V.int (.ofNat 0)))] ++ [O.lst [V.int (.ofNat 0)]] ++ [O.lst (List.replicate 16 (V.int (.ofNat 0)))]
  let hB := hA ++ [.inst 4 (hA.length + 1),.dct [(29,.ref h1.length),(21,.ref (h1 ++ [O.lst R] ++ [O.lst [V.int (.ofNat 0)]]).length),(20,.ref (h1 ++ [O.lst R] ++ [O.lst [V.int (.ofNat 0)]] ++ [O.lst (List.replicate fs (V.int (.ofNat 0)))] ++ [O.lst [V.int (.ofNat 0)]]).length),(19,.int (.ofNat 0))]]
  have pR : h1 <+: h1 ++ [O.lst R] := List.prefix_append _ _
  have pA' : h1 ++ [O.lst R] <+: hA := (((List.prefix_append _ _).trans (List.prefix_append _ _)).trans (List.prefix_append _ _)).trans (List.prefix_append _ _)
  have pB : hA <+: hB := List.prefix_append _ _
  have pAll := ((p1.trans pR).trans pA').trans pB
  have t4' := t4 (sa := sa) (zs := zs) (n := 64) (h := hA) (by decide) (a := .ref h1.length) (b := .ref (h1 ++ [O.lst R] ++ [O.lst [V.int (.ofNat 0)]]).length) (c := .ref (h1 ++ [O.lst R] ++ [O.lst [V.int (.ofNat 0)]] ++ [O.lst (List.replicate fs (V.int (.ofNat 0)))] ++ [O.lst [V.int (.ofNat 0)]]).length) (d := .int (.ofNat 0))
  have t2' := t2 (sa := sa) (zs := zs) (n := 64) (h := hB) (G.mono pAll) D (by decide) (z := .ref hA.length)
  have ZZ : ZF (P0 sa zs).C hB (.ref hA.length) (fs * rs) := by
    refine ⟨.ref h1.length,new_attr _ _ _ _,fun c hc => ⟨.ref (h.length + 2 * c + 1),?_,fun q hq => ?_⟩⟩
    · refine sub_lst (v := .ref h1.length) (get_pre pB (get_pre pA' (last_get h1 _))) (Int.natCast_nonneg _) (Int.ofNat_le.mpr (big_lt hc)) ?_
      rw [Int.toNat_natCast,List.getElem?_map,List.getElem?_range hc]; rfl
    · refine sub_lst (v := .ref (h.length + 2 * c + 1)) (get_pre pB (get_pre pA' (get_pre pR (q1 c hc)))) (Int.natCast_nonneg _) (Int.ofNat_le.mpr (big hq D.size.2)) ?_
      rw [Int.toNat_natCast,List.getElem?_replicate,if_pos hq]
  have G' := G.mono pAll
  have eb' := obj_pre pAll eb
  have gf : getAttr (h1 ++ [O.lst R] ++ [O.lst [V.int (.ofNat 0)]]) g 0 = some (.int fs) := (G.mono ((p1.trans pR).trans (List.prefix_append _ _))).files
  refine call_wp m64 hn ⟨rfl,_,rfl,rfl,_,_,e1,(by rw [List.length_map,List.length_range]; decide),rfl,?_⟩
  refine sig_eq (σ := [_,_,_,_,_,_]) rfl ?_
  refine ⟨_,rfl,_,rfl,rfl,_,rfl,_,gf,_,_,mul_lst (k := fs) (last_get _ _) rfl (Nat.le_trans D.1.2 (by decide)),rfl,_,_,mul_lst (k := 16) (last_get _ _) rfl (by decide),_,t4',_,t2',rfl,?_⟩
  refine sig_eq (σ := [_,_,_,_,some (.ref hB.length),_]) rfl ?_
  generalize hB = hZ at G' eb' ZZ pAll ⊢
  generalize V.ref hA.length = z at ZZ ⊢
  have pz : ∀ L : H,hZ <+: hZ ++ L := fun L => List.prefix_append _ _
  refine ⟨_,rfl,_,(G'.mono (pz _)).size,_,rfl,rangeOk_of ⟨by decide,Nat.le_trans D.size.2 (by decide)⟩,forN_wp (L := List.range (fs * rs)) (J64a fs rs b g bd x h1 hZ z) _ (fun q K σ h' j => ?_) (fun σ h' j => ?_) (range_zero rfl) ⟨⟨_,rfl⟩,?_,List.nodup_range,fun t ht => List.mem_range.mp ht⟩⟩
  · obtain ⟨⟨o5,rfl⟩,P,nd,hK⟩ := j
    have hq := hK q List.mem_cons_self
    have pP : hZ <+: h' := by obtain ⟨X,key,KD,SD,rfl,_⟩ := P; exact pz _
    have hc : getSub (P0 sa zs).C h' bd (.int (q : Int)) = some (vN (cell b q)) := sq_at (obj_pre pP eb') rfl (by rw [Y.len]; exact hq) (big hq D.size.2)
    obtain ⟨nq,nd'⟩ := List.nodup_cons.mp nd
    refine ⟨rfl,rfl,ite_tst (fun Q c => ⟨_,rfl,_,rfl,_,hc,c _ tst_int⟩) (fun c => ?_) (fun c => ?_)⟩
    · obtain ⟨h2,e2,P2⟩ := put_yes (sa := sa) (zs := zs) (n := 64) Y P (by decide) hq nq (by rw [Bool.not_eq_true'] at c; exact beq_ff.mp c) ZZ
      exact ⟨_,rfl,_,rfl,_,rfl,_,hc,_,rfl,_,_,e2,rfl,⟨_,rfl⟩,P2,nd',fun t ht => hK t (List.mem_cons_of_mem _ ht)⟩
    · exact ⟨⟨_,rfl⟩,put_no P (beq_iff'.mp (by rw [Bool.not_eq_false'] at c; exact c)),nd',fun t ht => hK t (List.mem_cons_of_mem _ ht)⟩
  · obtain ⟨⟨o5,rfl⟩,⟨X,key,KD,SD,rfl,hX,c,ck,cs⟩,_,_⟩ := j
    obtain rfl : X = b := cell_ext (by rw [hX,Y.len]) fun t ht => c t (by rw [← Y.len]; exact ht)
    refine ⟨rfl,_,rfl,_,rfl,_,mid_set rfl rfl rfl,_,rfl,pAll.trans (pz _),?_⟩
    exact pos_of (x := x) (key := key) (K := KD) (S := SD) G' (fun k t hk ht => (ck k t hk ht).trans (Bool.true_and _)) fun s t hs ht => (cs s t hs ht).trans (Bool.true_and _)
  · have hr : ∀ t,t < fs * rs → (List.range (fs * rs)).contains t = true := fun t ht => List.contains_iff_mem.mpr (List.mem_range.mpr ht)
    refine ⟨List.replicate (fs * rs) 0,0,_,_,by rw [zer7 (fs * rs),zer2 (fs * rs)],List.length_replicate,fun t ht => ?_,fun k t _ ht => ?_,fun s t _ ht => ?_⟩
    · rw [cell_rep,hr t ht]; rfl
    · rw [hr t ht]; rfl
    · rw [hr t ht]; rfl
end
noncomputable def geoDct (fs rs : Nat) (b : Bool) : O := .dct [(0,.int fs),(1,.int rs),(2,.int ((fs * rs : Nat) : Int)),(3,.int ((2 ^ (fs * rs) - 1 : Nat) : Int)),(4,.bool b),(5,.bool false),
  (6,.ref 9),(7,.ref 10),(8,.ref 11),(9,.ref 12),(10,.ref 13),(11,.ref 16),(12,.ref 17),(13,.ref 18)]
noncomputable def geoNew7 (o0 o1 o2 o3 o4 o5 o6 : O) (fs rs : Nat) (b : Bool) : H := [o0,o1,o2,o3,o4,o5,o6,.inst 1 8,geoDct fs rs b,.lst [],.lst [],.lst [],.lst [],.lst [],.lst [],.lst [],.lst [.ref 14,.ref 15],.lst [],.lst []]
noncomputable def GeoRun7 (fs rs : Nat) : Prop := ∀ (sa : Nat) (zs : List Int) (o0 o1 o2 o3 o4 o5 o6 : O) (b : Bool),(geoRest (P0 sa zs) (.ref 7) (geoNew7 o0 o1 o2 o3 o4 o5 o6 fs rs b)).map (fun h => (chkGeo fs rs (.ref 7) h,getAttr h (.ref 7) 4,h[5]?)) = some (true,some (.bool b),some o5)
theorem run7_2_3 : GeoRun7 2 3 := fun sa zs o0 o1 o2 o3 o4 o5 o6 b => by kernel_rfl
theorem run7_2_4 : GeoRun7 2 4 := fun sa zs o0 o1 o2 o3 o4 o5 o6 b => by kernel_rfl
theorem run7_2_5 : GeoRun7 2 5 := fun sa zs o0 o1 o2 o3 o4 o5 o6 b => by kernel_rfl
theorem run7_2_6 : GeoRun7 2 6 := fun sa zs o0 o1 o2 o3 o4 o5 o6 b => by kernel_rfl
theorem run7_3_3 : GeoRun7 3 3 := fun sa zs o0 o1 o2 o3 o4 o5 o6 b => by kernel_rfl
theorem run7_3_4 : GeoRun7 3 4 := fun sa zs o0 o1 o2 o3 o4 o5 o6 b => by kernel_rfl
theorem run7_3_5 : GeoRun7 3 5 := fun sa zs o0 o1 o2 o3 o4 o5 o6 b => by kernel_rfl
theorem run7_3_6 : GeoRun7 3 6 := fun sa zs o0 o1 o2 o3 o4 o5 o6 b => by kernel_rfl
theorem run7_4_3 : GeoRun7 4 3 := fun sa zs o0 o1 o2 o3 o4 o5 o6 b => by kernel_rfl
theorem run7_4_4 : GeoRun7 4 4 := fun sa zs o0 o1 o2 o3 o4 o5 o6 b => by kernel_rfl
theorem run7_4_5 : GeoRun7 4 5 := fun sa zs o0 o1 o2 o3 o4 o5 o6 b => by kernel_rfl
theorem run7_4_6 : GeoRun7 4 6 := fun sa zs o0 o1 o2 o3 o4 o5 o6 b => by kernel_rfl
theorem run7_5_3 : GeoRun7 5 3 := fun sa zs o0 o1 o2 o3 o4 o5 o6 b => by kernel_rfl
theorem run7_5_4 : GeoRun7 5 4 := fun sa zs o0 o1 o2 o3 o4 o5 o6 b => by kernel_rfl
theorem run7_5_5 : GeoRun7 5 5 := fun sa zs o0 o1 o2 o3 o4 o5 o6 b => by kernel_rfl
theorem run7_5_6 : GeoRun7 5 6 := fun sa zs o0 o1 o2 o3 o4 o5 o6 b => by kernel_rfl
theorem andB {P : Par} {F : Call} {a b : ME} {σ : Sig} {h : H} {x y : Bool} {Q : V → H → Prop} (ha : TstB P F a σ h x) (hb : TstB P F b σ h y) (q : Q (.bool (x && y)) h) : wE P F (.and a b) σ h Q :=
  ha _ ⟨fun z => by have z : x = true := z; subst z; exact hb _ q,fun z => by have z : x = false := z; subst z; exact q⟩
theorem geoRun7_of {fs rs : Nat} (D : Dim fs rs) : GeoRun7 fs rs := by
  obtain ⟨⟨a,b⟩,c,d⟩ := D
  rcases ((show ∀ f,f < 6 → 2 ≤ f → f = 2 ∨ f = 3 ∨ f = 4 ∨ f = 5 by decide) fs (Nat.lt_succ_of_le b) a) with rfl | rfl | rfl | rfl <;> rcases ((show ∀ r,r < 7 → 3 ≤ r → r = 3 ∨ r = 4 ∨ r = 5 ∨ r = 6 by decide) rs (Nat.lt_succ_of_le d) c) with rfl | rfl | rfl | rfl
  · exact run7_2_3
  · exact run7_2_4
  · exact run7_2_5
  · exact run7_2_6
  · exact run7_3_3
  · exact run7_3_4
  · exact run7_3_5
  · exact run7_3_6
  · exact run7_4_3
  · exact run7_4_4
  · exact run7_4_5
  · exact run7_4_6
  · exact run7_5_3
  · exact run7_5_4
  · exact run7_5_5
  · exact run7_5_6
theorem rest_of {P : Par} {g : V} {h h5 : H} (e : geoRest P g h = some h5) : ∃ h1 h2 h3 h4,callN P fnT 22 16 [g] h = some (.none,h1) ∧ callN P fnT 22 18 [g] h1 = some (.none,h2) ∧ callN P fnT 22 19 [g] h2 = some (.none,h3) ∧ callN P fnT 22 20 [g] h3 = some (.none,h4) ∧ callN P fnT 22 21 [g] h4 = some (.none,h5) := by
  have st : ∀ {f : Nat} {h : H} {K : H → Option H},(bo (callN P tabM 22 f [g] h) fun v h1 => bN v (K h1)) = some h5 → ∃ h1,callN P fnT 22 f [g] h = some (.none,h1) ∧ K h1 = some h5 := fun e => by
    obtain ⟨v,h1,e1,e⟩ := bo_inv e
    obtain ⟨rfl,e⟩ := bN_inv e
    rw [callM (Nat.le_refl _)] at e1
    exact ⟨h1,e1,e⟩
  obtain ⟨h1,e1,e⟩ := st e
  obtain ⟨h2,e2,e⟩ := st e
  obtain ⟨h3,e3,e⟩ := st e
  obtain ⟨h4,e4,e⟩ := st e
  obtain ⟨h6,e5,e⟩ := st (K := some) e
  obtain rfl := Option.some.inj e
  exact ⟨h1,h2,h3,h4,e1,e2,e3,e4,e5⟩
noncomputable def GH (h : H) (fs rs : Nat) (hd bb : Bool) : H := h ++ (.inst 1 (h.length + 1) :: .dct [(0,.int fs),(1,.int rs),(2,.int ((fs * rs : Nat) : Int)),(3,.int ((2 ^ (fs * rs) - 1 : Nat) : Int)),(4,.bool (hd && Nat.ble 5 rs)),(5,.bool bb),(6,.ref (h.length + 2)),(7,.ref (h.length + 3)),(8,.ref (h.length + 4)),(9,.ref (h.length + 5)),(10,.ref (h.length + 6)),(11,.ref (h.length + 9)),(12,.ref (h.length + 10)),(13,.ref (h.length + 11))] ::
      [.lst [],.lst [],.lst [],.lst [],.lst [],.lst [],.lst [],.lst [.ref (h.length + 7),.ref (h.length + 8)],.lst [],.lst []])
section
variable {sa : Nat} {zs : List Int} {n : Nat} {fs rs : Nat} (D : Dim fs rs)
include D
theorem t1 (hn : 1 < n) {h : H} {hd bb : Bool} : callN (P0 sa zs) fnT n 1 [.ref h.length,.int fs,.int rs,.bool hd,.bool bb] (h ++ [.inst 1 (h.length + 1),.dct []]) = some (.none,GH h fs rs hd bb) := by
  have hN := D.size
  let i : O := .inst 1 (h.length + 1)
  let e : O := .lst []
  let f5 : List (Nat × V) := [(0,.int fs),(1,.int rs),(2,.int ((fs * rs : Nat) : Int)),(3,.int ((2 ^ (fs * rs) - 1 : Nat) : Int)),(4,.bool (hd && Nat.ble 5 rs)),(5,.bool bb)]
  have ap : ∀ (d : O) (os : H) (o : O),h ++ (i :: d :: os) ++ [o] = h ++ (i :: d :: (os ++ [o])) := fun d os o => by rw [List.append_assoc]; rfl
  let f6 : List (Nat × V) := f5 ++ [(6,.ref (h.length + 2)),(7,.ref (h.length + 3)),(8,.ref (h.length + 4)),(9,.ref (h.length + 5)),(10,.ref (h.length + 6))]
  have ln : ∀ (d : O) (os : H),V.ref (h ++ (i :: d :: os)).length = .ref (h.length + (os.length + 2)) := fun d os => congrArg V.ref (by rw [List.length_append]; rfl)
  have ln3 : ∀ (d : O) (os : H) (o o' : O),V.ref (h ++ (i :: d :: os) ++ [o] ++ [o']).length = .ref (h.length + (os.length + 2 + 1 + 1)) := fun d os o o' => congrArg V.ref (by rw [List.length_append,List.length_append,List.length_append]; rfl)
  have mu : binInt .Mult (fs : Int) (rs : Int) = some ((fs * rs : Nat) : Int) := (mul_ok (small_nat (Nat.lt_of_le_of_lt D.1.2 (by decide)))).trans (congrArg some (Int.natCast_mul fs rs).symm)
  have sh := shl_ok (a := Int.ofNat 1) (b := ((fs * rs : Nat) : Int)) (c := fs * rs) rfl (Nat.le_trans D.size.2 (by decide)) rfl
  have x3 : V.int (Int.ofNat 1 * 2 ^ (fs * rs) - Int.ofNat 1) = .int ((2 ^ (fs * rs) - 1 : Nat) : Int) := by
    rw [show Int.ofNat 1 * 2 ^ (fs * rs) = ((2 ^ (fs * rs) : Nat) : Int) by rw [Int.natCast_pow]; exact Int.one_mul _,Int.natCast_sub (Nat.one_le_two_pow)]; rfl
  have x4 : V.bool (hd && decide ((rs : Int) ≥ Int.ofNat 5)) = .bool (hd && Nat.ble 5 rs) := congrArg V.bool (congrArg (hd && ·) (by
    rw [Bool.eq_iff_iff,decide_eq_true_eq,Nat.ble_eq]; exact Int.ofNat_le))
  suffices key : Meets (P0 sa zs) n 1 [.ref h.length,.int fs,.int rs,.bool hd,.bool bb] (h ++ [.inst 1 (h.length + 1),.dct []]) fun v h' => v = .none ∧ h' = GH h fs rs hd bb by
    obtain ⟨v,h',e,rfl,rfl⟩ := key; exact e
  refine call_wp m1 hn ⟨rfl,_,rfl,_,rfl,_,mid_set (fs := []) (os := []) rfl rfl rfl,?_⟩
  refine sig_eq (σ := [_,_,_,_,_]) rfl ?_
  refine ⟨_,rfl,_,rfl,_,mid_set (fs := f5.take 1) (os := []) rfl rfl rfl,_,rfl,_,rfl,_,mu,_,rfl,_,mid_set (fs := f5.take 2) (os := []) rfl rfl rfl,?_⟩
  refine ⟨_,rfl,_,rfl,_,mu,_,sh,_,rfl,_,mid_set (fs := f5.take 3) (os := []) rfl x3 rfl,?_⟩
  refine andB (fun Q c => ⟨_,rfl,c⟩) (fun Q c => ⟨_,rfl,c⟩) ⟨_,rfl,_,mid_set (fs := f5.take 4) (os := []) rfl x4 rfl,?_⟩
  refine ⟨_,rfl,_,rfl,_,mid_set (fs := f5.take 5) (os := []) rfl rfl rfl,?_⟩
  refine heap_eq (h2 := h ++ (i :: .dct f5 :: [])) rfl ?_
  refine ⟨rfl,_,rfl,_,mid_set (fs := f5) (os := [e]) (ap _ [] _) (ln _ []) rfl,?_⟩
  refine ⟨rfl,_,rfl,_,mid_set (os := [e,e]) (ap _ [e] _) (ln _ [e]) rfl,?_⟩
  refine ⟨rfl,_,rfl,_,mid_set (os := [e,e,e]) (ap _ [e,e] _) (ln _ [e,e]) rfl,?_⟩
  refine ⟨rfl,_,rfl,_,mid_set (os := [e,e,e,e]) (ap _ [e,e,e] _) (ln _ [e,e,e]) rfl,?_⟩
  refine ⟨rfl,_,rfl,_,mid_set (os := [e,e,e,e,e]) (ap _ [e,e,e,e] _) (ln _ [e,e,e,e]) rfl,?_⟩
  refine heap_eq (h2 := h ++ (i :: .dct f6 :: [e,e,e,e,e])) rfl ?_
  refine ⟨rfl,rfl,rfl,_,rfl,_,mid_set (c := 1) (fs := f6) (os := [e,e,e,e,e,e,e,.lst [.ref (h.length + 7),.ref (h.length + 8)]]) ?_ (ln3 _ [e,e,e,e,e] _ _) rfl,?_⟩
  · rw [ap,ln,ap,ln]; exact ap _ _ _
  refine ⟨rfl,_,rfl,_,mid_set (os := [e,e,e,e,e,e,e,.lst [.ref (h.length + 7),.ref (h.length + 8)],e]) (ap _ _ _) (ln _ _) rfl,?_⟩
  refine ⟨rfl,_,rfl,_,mid_set (os := [e,e,e,e,e,e,e,.lst [.ref (h.length + 7),.ref (h.length + 8)],e,e]) (ap _ _ _) (ln _ _) rfl,?_⟩
  exact ⟨rfl,rfl⟩
end
section
variable {sa : Nat} {zs : List Int} {n : Nat} {fs rs : Nat} (D : Dim fs rs)
include D
theorem t22 (hn : 22 < n) {hd : Bool} {o0 o1 o2 o3 o4 o5 o6 : O} : Meets (P0 sa zs) n 22 [.int fs,.int rs,.bool hd,.bool false] [o0,o1,o2,o3,o4,o5,o6] fun v h' => GeoAt (P0 sa zs).C h' v fs rs hd ∧ h'[5]? = some o5 := by
  have R := geoRun7_of D sa zs o0 o1 o2 o3 o4 o5 o6 (hd && Nat.ble 5 rs)
  have hf := D.1
  have hr := D.2
  cases eR : geoRest (P0 sa zs) (.ref 7) (geoNew7 o0 o1 o2 o3 o4 o5 o6 fs rs (hd && Nat.ble 5 rs)) with
  | none => rw [eR] at R; exact nn R
  | some h5 =>
    rw [eR] at R
    have R := Option.some.inj R
    obtain ⟨r1,R⟩ := Prod.mk.inj R
    obtain ⟨r2,r3⟩ := Prod.mk.inj R
    obtain ⟨h1,h2,h3,h4,e1,e2,e3,e4,e5⟩ := rest_of eR
    have c1 := t1 (sa := sa) (zs := zs) (n := 22) D (by decide) (h := [o0,o1,o2,o3,o4,o5,o6]) (hd := hd) (bb := false)
    have lt8 : ∀ {k m : Nat},k ≤ m → decide ((k : Int) > Int.ofNat m) = false := fun {k m} q => decide_eq_false fun z => Nat.not_lt_of_le q (Int.ofNat_lt.mp z)
    have lt2 : ∀ {k m : Nat},m ≤ k → decide ((k : Int) < Int.ofNat m) = false := fun {k m} q => decide_eq_false fun z => Nat.not_lt_of_le q (Int.ofNat_lt.mp z)
    refine call_wp m22 hn ⟨rfl,?_⟩
    refine ite_tst (c := false) (tst_or (c := false) (d := false) (fun Q c => ⟨_,rfl,c _ (congrArg some (lt2 hf.1))⟩) fun _ => tst_or (c := false) (d := false) (fun Q c => ⟨_,rfl,c _ (congrArg some (lt8 (m := 8) (Nat.le_trans hf.2 (by decide))))⟩) fun _ => tst_or (c := false) (d := false) (fun Q c => ⟨_,rfl,c _ (congrArg some (lt2 hr.1))⟩) fun _ Q c => ⟨_,rfl,c _ (congrArg some (lt8 (m := 8) (Nat.le_trans hr.2 (by decide))))⟩) nofun fun _ => ?_
    refine ⟨_,rfl,_,rfl,_,rfl,_,rfl,_,c1,rfl,?_⟩
    exact ⟨_,rfl,_,_,e1,rfl,_,rfl,_,_,e2,rfl,_,rfl,_,_,e3,rfl,_,rfl,_,_,e4,rfl,_,rfl,_,_,e5,rfl,_,rfl,geoAt_of r1 r2,r3⟩
end
theorem con0_none {a : Nat} (h : 673 ≤ a) : con0 a = none := by
  unfold con0
  rw [List.lookup_eq_none_iff]
  intro p hp
  have key : ∀ p ∈ conL,p.1 < 673 := by
    have e : conL.all (fun p => Nat.blt p.1 673) = true := by decide +kernel
    intro p hp
    exact Nat.blt_eq.mp (List.all_eq_true.mp e p hp)
  have := key p hp
  exact bne_iff_ne.mpr (Nat.ne_of_gt (Nat.lt_of_lt_of_le this h))
theorem cons_of {n : Nat} {h : H} (e : h.length = n + 1) : ∃ o t,h = o :: t ∧ t.length = n := by
  cases h with
  | nil => cases e
  | cons o t => exact ⟨o,t,rfl,Nat.succ.inj e⟩
theorem list7 {h : H} (e : h.length = 7) : ∃ o0 o1 o2 o3 o4 o5 o6,h = [o0,o1,o2,o3,o4,o5,o6] :=
  let ⟨o0,_,a0,e⟩ := cons_of e; let ⟨o1,_,a1,e⟩ := cons_of e; let ⟨o2,_,a2,e⟩ := cons_of e; let ⟨o3,_,a3,e⟩ := cons_of e; let ⟨o4,_,a4,e⟩ := cons_of e; let ⟨o5,_,a5,e⟩ := cons_of e; let ⟨o6,_,a6,e⟩ := cons_of e
  ⟨o0,o1,o2,o3,o4,o5,o6,by rw [a0,a1,a2,a3,a4,a5,a6,List.length_eq_zero_iff.mp e]⟩
inductive J78 (sa : Nat) (x : Int) (r1 : Nat) (r2 : Nat) (r3 : Nat) (p : V) (m : V) (hE : H) (a8 : Nat) (K : List Nat) (σ : Sig) (h' : H) : Prop
  | mk  (c0 : ∃ o9,σ = [some (.con sa),some (.int x),some (.int ((2 + r1 : Nat) : Int)),some (.int ((3 + r2 : Nat) : Int)),some (.bool ((r3 : Int) == Int.ofNat 0)),some (.ref 5),some p,some m,some (.ref a8),o9]) (c1 : hE <+: h') (c2 : ∀ s ∈ K,s < 2) : J78 sa x r1 r2 r3 p m hE a8 K σ h'
theorem law_true : LawTrue := fun sa zs hsa hl => by
  have hC : (P0 sa zs).C sa = some (.lst (zs.map .int)) := by
    show (match con0 sa with | some o => some o | none => if sa = sa then some (O.lst (zs.map V.int)) else none) = _
    rw [con0_none hsa]; exact if_pos rfl
  have hll : (zs.map V.int).length ≤ lenMax := by rw [List.length_map]; exact Nat.le_trans hl (by decide)
  suffices key : Meets (P0 sa zs) 79 78 [.con sa] [] fun v _ => v = .bool true by
    obtain ⟨v,h',e,rfl⟩ := key; exact ⟨h',e⟩
  obtain ⟨x,hx⟩ : ∃ x : Int,∀ (F : Call) (σ : Sig) (Q : V → H → Prop),σ[0]? = some (some (.con sa)) → Q (.int x) [] → wE (P0 sa zs) F (.ite (.var 0) (.sub (.var 0) (.const (.int (.ofNat 0)))) (.const (.int (.ofNat 13)))) σ [] Q := by
    have ht : truthy (P0 sa zs).C [] (.con sa) = some (!(zs.map V.int).isEmpty) :=
      bL_mk (X := (P0 sa zs).C sa) hC (if_pos hll)
    cases zs with
    | nil => exact ⟨13,fun F σ Q e q => ⟨_,e,wTruth_of (c := false) ht nofun fun _ => q⟩⟩
    | cons y r => exact ⟨y,fun F σ Q e q => ⟨_,e,wTruth_of (c := true) ht (fun _ => ⟨_,e,_,sub_lst (v := .con sa) hC (by decide) (by decide) rfl,q⟩) nofun⟩⟩
  obtain ⟨r1,h1,m1'⟩ := modz (x := x) (N := 4) (by decide)
  have d4 := divz (x := x) (N := 4) (by decide) (by decide)
  obtain ⟨r2,h2,m2'⟩ := modz (x := x.fdiv ((4 : Nat) : Int)) (N := 4) (by decide)
  have d16 := divz (x := x) (N := 16) (by decide) (by decide)
  obtain ⟨r3,h3,m3'⟩ := modz (x := x.fdiv ((16 : Nat) : Int)) (N := 2) (by decide)
  have d32 := divz (x := x) (N := 32) (by decide) (by decide)
  obtain ⟨r4,h4,m4'⟩ := modz (x := x.fdiv ((32 : Nat) : Int)) (N := 2) (by decide)
  have D : Dim (2 + r1) (3 + r2) := ⟨⟨Nat.le_add_right 2 r1,Nat.add_le_add_left (Nat.le_of_lt_succ h1) 2⟩,Nat.le_add_right 3 r2,Nat.add_le_add_left (Nat.le_of_lt_succ h2) 3⟩
  let S := (zs.take 12).drop 1
  have hS : S.length ≤ 11 := by show ((zs.take 12).drop 1).length ≤ 11; rw [List.length_drop,List.length_take]; exact Nat.sub_le_sub_right (Nat.min_le_left ..) 1
  have eS : ((zs.map V.int).take 12).drop 1 = S.map V.int := by rw [← List.map_take,← List.map_drop]
  obtain ⟨v63,h63,c63,b,rfl,l63,g63,Y⟩ := t63 (sa := sa) (zs := zs) (n := 78) (h := [.lst (S.map .int)]) D (by decide) (al := 0) (L := S) rfl hS
  obtain ⟨o0,o1,o2,o3,o4,o5,o6,rfl⟩ := list7 l63
  obtain rfl : o5 = .lst (b.map vN) := Option.some.inj g63
  obtain ⟨g,hG,cG,G,g5⟩ := t22 (sa := sa) (zs := zs) (n := 78) D (by decide) (hd := ((r3 : Int) == Int.ofNat 0)) (o0 := o0) (o1 := o1) (o2 := o2) (o3 := o3) (o4 := o4) (o5 := .lst (b.map vN)) (o6 := o6)
  have eb : SqL (P0 sa zs).C hG (.ref 5) b := g5
  obtain ⟨p,hP,cP,pP,Z⟩ := t64 (sa := sa) (zs := zs) (n := 78) Y (by decide) G eb (x := (r4 : Int))
  obtain ⟨m,hM,cM,pM,M⟩ := t44 (sa := sa) (zs := zs) (n := 78) Z Y (by decide)
  replace eb := obj_pre (pP.trans pM) eb
  replace Z := Z.mono pM
  obtain ⟨l0,hL0,cL0,pL0,_,L0⟩ := t70 (sa := sa) (zs := zs) (n := 78) (h := hM) Y (by decide) (x := (2 + r1 : Nat)) (y := (3 + r2 : Nat)) (z := Int.ofNat 0) (s := 0) rfl rfl rfl (by decide) eb
  obtain ⟨l1,hL1,cL1,pL1,_,L1⟩ := t70 (sa := sa) (zs := zs) (n := 78) (h := hL0) Y (by decide) (x := (2 + r1 : Nat)) (y := (3 + r2 : Nat)) (z := Int.ofNat 1) (s := 1) rfl rfl rfl (by decide) (obj_pre pL0 eb)
  have v2 : V.int (Int.ofNat 2 + (r1 : Int)) = .int ((2 + r1 : Nat) : Int) := rfl
  have v3 : V.int (Int.ofNat 3 + (r2 : Int)) = .int ((3 + r2 : Nat) : Int) := rfl
  refine call_wp m78 (by decide) ⟨rfl,?_⟩
  refine wSs_assign (hx _ _ _ rfl ⟨rfl,?_⟩)
  refine sig_eq (σ := [_,_,_,_,_,_,_,_,_,_]) rfl ?_
  refine ⟨_,rfl,_,m1',rfl,_,rfl,_,d4,_,m2',rfl,_,rfl,_,d16,_,m3',rfl,?_⟩
  refine sig_eq (σ := [_,_,some (.int ((2 + r1 : Nat) : Int)),some (.int ((3 + r2 : Nat) : Int)),_,_,_,_,_,_]) (by rw [← v2,← v3]; rfl) ?_
  have c63' : callN (P0 sa zs) fnT 78 63 [.int ((2 + r1 : Nat) : Int),.int ((3 + r2 : Nat) : Int),.ref 0] [.lst (((zs.map V.int).take 12).drop 1)] = some (.ref 5,[o0,o1,o2,o3,o4,.lst (b.map vN),o6]) := by rw [eS]; exact c63
  refine ⟨_,rfl,_,rfl,_,rfl,_,_,_,rfl,rfl,hC,⟨by decide,by decide,hll⟩,_,_,c63',rfl,?_⟩
  refine sig_eq (σ := [_,_,_,_,_,_,_,_,_,_]) rfl ?_
  refine ⟨_,rfl,_,rfl,_,rfl,_,_,cG,_,rfl,_,rfl,_,d32,_,m4',_,_,cP,rfl,?_⟩
  refine ⟨_,rfl,_,_,cM,rfl,?_⟩
  refine sig_eq (σ := [_,_,_,_,_,_,_,_,_,_]) rfl ?_
  refine ⟨_,rfl,_,rfl,_,rfl,_,_,cL0,_,rfl,_,rfl,_,rfl,_,_,cL1,rfl,rfl,?_⟩
  refine sig_eq (σ := [_,_,_,_,_,_,_,_,_,_]) rfl ?_
  have pE := List.prefix_append hL1 [O.lst [l0,l1]]
  have gE := last_get hL1 (.lst [l0,l1])
  have pZ := (pL0.trans pL1).trans pE
  obtain ⟨bv0,as0,at0,S0,T0,K0⟩ := lk_of L0
  obtain ⟨bv1,as1,at1,S1,T1,K1⟩ := lk_of L1
  replace K0 := K0.mono (pL1.trans pE)
  replace K1 := K1.mono pE
  replace eb := obj_pre pZ eb
  replace Z := Z.mono pZ
  replace M := fun (x : Int) (s : Nat) (hx : x = s) (hs : s < 2) => (let ⟨w,a1,a2⟩ := M x s hx hs; (⟨w,sub_pre pZ a1,a2.mono pZ⟩ : ∃ w,getSub (P0 sa zs).C (hL1 ++ [O.lst [l0,l1]]) m (.int x) = some w ∧ AtkAt (P0 sa zs).C (hL1 ++ [O.lst [l0,l1]]) w (2 + r1) (3 + r2) b s))
  generalize hL1.length = a8 at gE ⊢
  generalize hL1 ++ [O.lst [l0,l1]] = hE at gE K0 K1 eb Z M ⊢
  refine ⟨rfl,forN_wp (L := [0,1]) (J78 sa x r1 r2 r3 p m hE a8) _ (fun s K σ h' j => ?_) (fun σ h' j => ?_) rfl ⟨⟨_,rfl⟩,List.prefix_refl _,by decide⟩⟩
  · obtain ⟨⟨o9,rfl⟩,q,hK⟩ := j
    have hs := hK s List.mem_cons_self
    have gE' := get_pre q gE
    have M' : MapsAt (P0 sa zs).C h' m (2 + r1) (3 + r2) b := fun x s hx hs => let ⟨w,a1,a2⟩ := M x s hx hs; ⟨w,sub_pre q a1,a2.mono q⟩
    have run : ∃ own foe h2,getSub (P0 sa zs).C h' (.ref a8) (.int (s : Int)) = some own ∧ getSub (P0 sa zs).C h' (.ref a8) (.int (Int.ofNat 1 - (s : Int))) = some foe ∧
        callN (P0 sa zs) fnT 78 77 [.int ((2 + r1 : Nat) : Int),.int ((3 + r2 : Nat) : Int),.bool ((r3 : Int) == Int.ofNat 0),.ref 5,p,m,.int (s : Nat),own,foe] h' = some (.bool true,h2) ∧ h' <+: h2 := by
      rcases (show s = 0 ∨ s = 1 by (first | lia | omega)) with rfl | rfl
      · obtain ⟨v,h2,e,rfl,pp⟩ := t77 (sa := sa) (zs := zs) (n := 78) Y (by decide) (hd := ((r3 : Int) == Int.ofNat 0)) (s := 0) (by decide) (obj_pre q eb) (Z.mono q) M' (K0.mono q) (K1.mono q)
        exact ⟨l0,l1,h2,sub_lst (v := .ref a8) gE' (by decide) (by decide) rfl,sub_lst (v := .ref a8) gE' (by decide) (by decide) rfl,e,pp⟩
      · obtain ⟨v,h2,e,rfl,pp⟩ := t77 (sa := sa) (zs := zs) (n := 78) Y (by decide) (hd := ((r3 : Int) == Int.ofNat 0)) (s := 1) (by decide) (obj_pre q eb) (Z.mono q) M' (K1.mono q) (K0.mono q)
        exact ⟨l1,l0,h2,sub_lst (v := .ref a8) gE' (by decide) (by decide) rfl,sub_lst (v := .ref a8) gE' (by decide) (by decide) rfl,e,pp⟩
    obtain ⟨own,foe,h2,e1,e2,e3,pp⟩ := run
    refine ⟨rfl,rfl,_,rfl,_,rfl,_,rfl,_,rfl,_,rfl,_,rfl,_,rfl,_,rfl,_,rfl,_,e1,_,rfl,_,rfl,_,e2,_,_,e3,true,rfl,(fun z => nomatch z),fun _ => ⟨⟨_,rfl⟩,q.trans pp,fun s hs => hK s (List.mem_cons_of_mem _ hs)⟩⟩
  · obtain ⟨⟨o9,rfl⟩,q,hK⟩ := j
    exact ⟨rfl,rfl⟩
end Mine
end
theorem PySem.Challenge.cw_nt0453_01_holds : PySem.Challenge.rw_nt0453_01.Holds :=
  Mine.holds_of Mine.law_true
