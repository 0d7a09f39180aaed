import PyProof.Rows.All
import Wide.All
import OpenK.AllK
import Wide.FinOn
import HandS.ForMost
import HandS.Walk
import HandS.Zip
import HandS.IsInst
import HandS.Gcd
import HandS.Wide
import HandS.More
import KE.GoesMore
import KE.GoesZip
import KE.GoesEnum
import KE.KMathG
import PySem.Challenge.RW_caskyears_k59_whole_rounds_come_nearer
import KE.KExcSuper
import KE.KSuper
import HandS.ForSpec
import HandS.Ends
import HandS.WordsExc
import HandS.Head0
import HandS.Head1
import HandS.Head2
import HandS.Head3
import HandS.HeadEnd
import HandS.HeadHook1
import HandS.HeadHook2
section
/-! Sums over lists of rationals, matrices as functions. -/
namespace Ck
/-- the sum of f over a list -/
def sm {α : Type} (l : List α) (f : α → Rat) : Rat := match l with
  | [] => 0
  | a :: r => f a + sm r f
section
variable {α β : Type} {l r : List α} {f g : α → Rat}
theorem sm_nil : sm ([] : List α) f = 0 := rfl
theorem sm_cons {a : α} : sm (a :: l) f = f a + sm l f := rfl
theorem sm_append : sm (l ++ r) f = sm l f + sm r f := by
  induction l with
  | nil => simp only [List.nil_append, sm_nil]; grind
  | cons a l ih => simp only [List.cons_append, sm_cons, ih]; grind
theorem sm_congr (h : ∀ x ∈ l, f x = g x) : sm l f = sm l g := by
  induction l with
  | nil => rfl
  | cons a l ih =>
    rw [sm_cons, sm_cons, h a List.mem_cons_self, ih fun x hx => h x (List.mem_cons_of_mem _ hx)]
theorem sm_add : sm l (fun x => f x + g x) = sm l f + sm l g := by
  induction l with
  | nil => simp only [sm_nil]; grind
  | cons a l ih => simp only [sm_cons, ih]; grind
theorem sm_sub : sm l (fun x => f x - g x) = sm l f - sm l g := by
  induction l with
  | nil => simp [sm]; grind
  | cons a l ih => simp only [sm_cons, ih]; grind
theorem sm_mul (c : Rat) : sm l (fun x => c * f x) = c * sm l f := by
  induction l with
  | nil => simp [sm]
  | cons a l ih => simp only [sm_cons, ih]; grind
theorem sm_mulr (c : Rat) : sm l (fun x => f x * c) = sm l f * c := by
  induction l with
  | nil => simp [sm]
  | cons a l ih => simp only [sm_cons, ih]; grind
theorem sm_zero (h : ∀ x ∈ l, f x = 0) : sm l f = 0 := by
  induction l with
  | nil => rfl
  | cons a l ih => rw [sm_cons, h a List.mem_cons_self, ih fun x hx => h x (List.mem_cons_of_mem _ hx)]; grind
theorem sm_le (h : ∀ x ∈ l, f x ≤ g x) : sm l f ≤ sm l g := by
  induction l with
  | nil => simp [sm]
  | cons a l ih =>
    have h1 := h a List.mem_cons_self
    have h2 := ih fun x hx => h x (List.mem_cons_of_mem _ hx)
    rw [sm_cons, sm_cons]; grind
theorem sm_nonneg (h : ∀ x ∈ l, 0 ≤ f x) : 0 ≤ sm l f := by
  have z : sm l (fun _ => (0 : Rat)) = 0 := sm_zero fun _ _ => rfl
  rw [← z]; exact sm_le h
/-- equal sums of pairwise ordered terms are termwise equal -/
theorem sm_tight (h : ∀ x ∈ l, f x ≤ g x) (q : sm l g ≤ sm l f) : ∀ x ∈ l, f x = g x := by
  induction l with
  | nil => intro x hx; cases hx
  | cons a l ih =>
    have h1 := h a List.mem_cons_self
    have h2 := sm_le (l := l) fun x hx => h x (List.mem_cons_of_mem _ hx)
    rw [sm_cons, sm_cons] at q
    intro x hx
    rcases List.mem_cons.mp hx with rfl | hx
    · grind
    · exact ih (fun x hx => h x (List.mem_cons_of_mem _ hx)) (by grind) x hx
theorem sm_swap {m : List β} {k : α → β → Rat} : sm l (fun i => sm m fun j => k i j) = sm m (fun j => sm l fun i => k i j) := by
  induction l with
  | nil => exact (sm_zero fun _ _ => rfl).symm
  | cons a l ih =>
    rw [sm_cons, ih, ← sm_add]
    rfl
theorem sm_map {h : β → α} {m : List β} : sm (m.map h) f = sm m (fun x => f (h x)) := by
  induction m with
  | nil => rfl
  | cons a m ih => rw [List.map_cons, sm_cons, sm_cons, ih]
/-- what is not in p adds nothing -/
theorem sm_filter {p : α → Bool} (h : ∀ x ∈ l, p x = false → f x = 0) : sm (l.filter p) f = sm l f := by
  induction l with
  | nil => rfl
  | cons a l ih =>
    have ih' := ih fun x hx => h x (List.mem_cons_of_mem _ hx)
    cases e : p a with
    | true => rw [List.filter_cons_of_pos e, sm_cons, sm_cons, ih']
    | false => rw [List.filter_cons_of_neg (by simp [e]), sm_cons, ih', h a List.mem_cons_self e]; grind
theorem sm_split (p : α → Bool) : sm l f = sm (l.filter p) f + sm (l.filter fun x => !p x) f := by
  induction l with
  | nil => simp only [List.filter_nil, sm_nil]; grind
  | cons a l ih =>
    cases e : p a with
    | true => rw [List.filter_cons_of_pos e, List.filter_cons_of_neg (by simp [e]), sm_cons, sm_cons, ih]; grind
    | false => rw [List.filter_cons_of_neg (by simp [e]), List.filter_cons_of_pos (by simp [e]), sm_cons, sm_cons, ih]; grind
theorem sm_perm (h : l.Perm r) : sm l f = sm r f := by
  induction h with
  | nil => rfl
  | cons a _ ih => rw [sm_cons, sm_cons, ih]
  | swap a b l => simp only [sm_cons]; grind
  | trans _ _ h1 h2 => rw [h1, h2]
theorem sm_one {a : α} [DecidableEq α] (nd : l.Nodup) (ha : a ∈ l) (h : ∀ x ∈ l, x ≠ a → f x = 0) : sm l f = f a := by
  induction l with
  | nil => cases ha
  | cons b l ih =>
    rw [List.nodup_cons] at nd
    rcases List.mem_cons.mp ha with rfl | ha
    · rw [sm_cons, sm_zero fun x hx => h x (List.mem_cons_of_mem _ hx) fun e => nd.1 (e ▸ hx)]; grind
    · rw [sm_cons, ih nd.2 ha fun x hx => h x (List.mem_cons_of_mem _ hx), h b List.mem_cons_self fun e => nd.1 (e ▸ ha)]; grind
theorem sm_ge_one {a : α} (ha : a ∈ l) (h : ∀ x ∈ l, 0 ≤ f x) : f a ≤ sm l f := by
  induction l with
  | nil => cases ha
  | cons b l ih =>
    rw [sm_cons]
    have h0 := h b List.mem_cons_self
    have h1 : 0 ≤ sm l f := sm_nonneg fun x hx => h x (List.mem_cons_of_mem _ hx)
    rcases List.mem_cons.mp ha with rfl | ha
    · grind
    · have := ih ha fun x hx => h x (List.mem_cons_of_mem _ hx); grind
theorem sm_eq_zero (h : ∀ x ∈ l, 0 ≤ f x) (e : sm l f = 0) : ∀ x ∈ l, f x = 0 := fun x hx => by
  have h1 := sm_ge_one hx h
  have h2 := h x hx
  grind
theorem sm_pos (h : ∀ x ∈ l, 0 ≤ f x) {a : α} (ha : a ∈ l) (p : 0 < f a) : 0 < sm l f := by
  have h1 := sm_ge_one ha h
  grind
theorem sm_pos_iff (h : ∀ x ∈ l, 0 ≤ f x) : 0 < sm l f ↔ ∃ a ∈ l, 0 < f a := by
  constructor
  · intro p
    by_cases q : ∃ a ∈ l, 0 < f a
    · exact q
    · have z : sm l f = 0 := sm_zero fun x hx => by
        have h1 := h x hx
        have h2 : ¬ 0 < f x := fun z => q ⟨x, hx, z⟩
        grind
      grind
  · rintro ⟨a, ha, p⟩; exact sm_pos h ha p
end
/-- a sum over a nodup part of a nodup list, where f is 0 outside -/
theorem sm_part {α : Type} [DecidableEq α] {l r : List α} {f : α → Rat} (nl : l.Nodup) (nr : r.Nodup) (hs : ∀ x ∈ r, x ∈ l) (h : ∀ x ∈ l, x ∉ r → f x = 0) : sm l f = sm r f := by
  have e : sm (l.filter fun x => decide (x ∈ r)) f = sm l f := sm_filter fun x hx q => h x hx (of_decide_eq_false q)
  rw [← e]
  refine sm_perm ((List.perm_ext_iff_of_nodup (nl.filter _) nr).mpr fun a => ?_)
  rw [List.mem_filter]
  exact ⟨fun z => of_decide_eq_true z.2, fun z => ⟨hs a z, decide_eq_true z⟩⟩
/-! ### absolute values -/
def ab (x : Rat) : Rat := if x < 0 then -x else x
theorem ab_nonneg (x : Rat) : 0 ≤ ab x := by unfold ab; split <;> grind
theorem le_ab (x : Rat) : x ≤ ab x := by unfold ab; split <;> grind
theorem neg_le_ab (x : Rat) : -x ≤ ab x := by unfold ab; split <;> grind
theorem ab_le {x y : Rat} (h1 : x ≤ y) (h2 : -x ≤ y) : ab x ≤ y := by unfold ab; split <;> grind
theorem ab_add (x y : Rat) : ab (x + y) ≤ ab x + ab y := by unfold ab; split <;> split <;> split <;> grind
theorem ab_of_nonneg {x : Rat} (h : 0 ≤ x) : ab x = x := by unfold ab; split <;> grind
theorem ab_zero_of {x : Rat} (h : ab x = 0) : x = 0 := by unfold ab at h; split at h <;> grind
theorem ab_neg (x : Rat) : ab (-x) = ab x := by unfold ab; split <;> split <;> grind
theorem ab_mul_nonneg {c x : Rat} (h : 0 ≤ c) : ab (c * x) = c * ab x := by
  unfold ab
  split <;> split
  · grind
  · rename_i h1 h2
    have : 0 ≤ c * x := Rat.mul_nonneg h (by grind)
    grind
  · rename_i h1 h2
    have : 0 ≤ c * -x := Rat.mul_nonneg h (by grind)
    grind
  · rfl
theorem ab_sm {α : Type} {l : List α} {f : α → Rat} : ab (sm l f) ≤ sm l fun x => ab (f x) := by
  induction l with
  | nil => show ab 0 ≤ 0; decide
  | cons a l ih =>
    rw [sm_cons, sm_cons]
    have := ab_add (f a) (sm l f)
    grind
/-! ### matrices -/
abbrev Mx := Nat → Nat → Rat
abbrev rg (n : Nat) : List Nat := List.range n
def idm : Mx := fun i j => if i = j then 1 else 0
def mul (n : Nat) (A B : Mx) : Mx := fun i j => sm (rg n) fun k => A i k * B k j
def pw (n : Nat) (A : Mx) : Nat → Mx
  | 0 => idm
  | k + 1 => mul n A (pw n A k)
/-- the same within n -/
def Eqn (n : Nat) (A B : Mx) : Prop := ∀ i j, i < n → j < n → A i j = B i j
theorem Eqn.refl {n : Nat} (A : Mx) : Eqn n A A := fun _ _ _ _ => rfl
theorem Eqn.symm {n : Nat} {A B : Mx} (h : Eqn n A B) : Eqn n B A := fun i j a b => (h i j a b).symm
theorem Eqn.trans {n : Nat} {A B C : Mx} (h : Eqn n A B) (g : Eqn n B C) : Eqn n A C := fun i j a b => (h i j a b).trans (g i j a b)
theorem mul_congr {n : Nat} {A A' B B' : Mx} (h : Eqn n A A') (g : Eqn n B B') : Eqn n (mul n A B) (mul n A' B') := fun i j hi hj =>
  sm_congr fun k hk => by rw [h i k hi (List.mem_range.mp hk), g k j (List.mem_range.mp hk) hj]
theorem mul_assoc (n : Nat) (A B C : Mx) : mul n (mul n A B) C = mul n A (mul n B C) := by
  funext i j
  show sm (rg n) (fun k => sm (rg n) (fun m => A i m * B m k) * C k j) = sm (rg n) fun m => A i m * sm (rg n) fun k => B m k * C k j
  have e1 : ∀ k, sm (rg n) (fun m => A i m * B m k) * C k j = sm (rg n) fun m => A i m * B m k * C k j := fun k => (sm_mulr _).symm
  have e2 : ∀ m, A i m * sm (rg n) (fun k => B m k * C k j) = sm (rg n) fun k => A i m * (B m k * C k j) := fun m => (sm_mul _).symm
  rw [sm_congr (fun k _ => e1 k), sm_congr (fun m _ => e2 m), sm_swap]
  exact sm_congr fun m _ => sm_congr fun k _ => by grind
theorem idm_mul {n : Nat} (A : Mx) : Eqn n (mul n idm A) A := fun i j hi hj => by
  show sm (rg n) (fun k => idm i k * A k j) = A i j
  rw [sm_one (a := i) List.nodup_range (List.mem_range.mpr hi) fun x _ hx => by unfold idm; rw [if_neg (Ne.symm hx)]; grind]
  unfold idm; rw [if_pos rfl]; grind
theorem mul_idm {n : Nat} (A : Mx) : Eqn n (mul n A idm) A := fun i j hi hj => by
  show sm (rg n) (fun k => A i k * idm k j) = A i j
  rw [sm_one (a := j) List.nodup_range (List.mem_range.mpr hj) fun x _ hx => by unfold idm; rw [if_neg hx]; grind]
  unfold idm; rw [if_pos rfl]; grind
theorem pw_add {n : Nat} (A : Mx) : ∀ a b, Eqn n (pw n A (a + b)) (mul n (pw n A a) (pw n A b))
  | 0, b => by rw [Nat.zero_add]; exact (idm_mul _).symm
  | a + 1, b => by
    rw [show a + 1 + b = (a + b) + 1 by omega]
    show Eqn n (mul n A (pw n A (a + b))) (mul n (mul n A (pw n A a)) (pw n A b))
    rw [mul_assoc]
    exact mul_congr (Eqn.refl A) (pw_add A a b)
theorem pw_one {n : Nat} (A : Mx) : Eqn n (pw n A 1) A := mul_idm A
theorem pw_succ' {n : Nat} (A : Mx) (a : Nat) : Eqn n (pw n A (a + 1)) (mul n (pw n A a) A) :=
  (pw_add A a 1).trans (mul_congr (Eqn.refl _) (pw_one A))
theorem pw_congr {n : Nat} {A B : Mx} (h : Eqn n A B) : ∀ k, Eqn n (pw n A k) (pw n B k)
  | 0 => Eqn.refl _
  | k + 1 => mul_congr h (pw_congr h k)
theorem pw_mul {n : Nat} (A : Mx) (a : Nat) : ∀ b, Eqn n (pw n (pw n A a) b) (pw n A (a * b))
  | 0 => by rw [Nat.mul_zero]; exact Eqn.refl _
  | b + 1 => by
    rw [Nat.mul_succ, Nat.add_comm (a * b) a]
    exact (mul_congr (Eqn.refl _) (pw_mul A a b)).trans (pw_add A a (a * b)).symm
/-- a table: entries from 0 on, columns at most 1 -/
def col (n : Nat) (A : Mx) (j : Nat) : Rat := sm (rg n) fun i => A i j
structure Tab (n : Nat) (A : Mx) : Prop where
  nn : ∀ i j, i < n → j < n → 0 ≤ A i j
  le : ∀ j, j < n → col n A j ≤ 1
theorem Tab.congr {n : Nat} {A B : Mx} (h : Eqn n A B) (t : Tab n A) : Tab n B :=
  ⟨fun i j hi hj => by rw [← h i j hi hj]; exact t.nn i j hi hj, fun j hj => by
    have e : col n B j = col n A j := sm_congr fun i hi => (h i j (List.mem_range.mp hi) hj).symm
    rw [e]; exact t.le j hj⟩
theorem col_mul {n : Nat} (A B : Mx) (j : Nat) : col n (mul n A B) j = sm (rg n) fun k => col n A k * B k j := by
  show sm (rg n) (fun i => sm (rg n) fun k => A i k * B k j) = _
  rw [sm_swap]
  exact sm_congr fun k _ => sm_mulr _
theorem Tab.mul {n : Nat} {A B : Mx} (a : Tab n A) (b : Tab n B) : Tab n (mul n A B) := by
  refine ⟨fun i j hi hj => sm_nonneg fun k hk => Rat.mul_nonneg (a.nn i k hi (List.mem_range.mp hk)) (b.nn k j (List.mem_range.mp hk) hj), fun j hj => ?_⟩
  rw [col_mul]
  refine Rat.le_trans (sm_le (g := fun k => B k j) fun k hk => ?_) (b.le j hj)
  have h1 := a.le k (List.mem_range.mp hk)
  have h2 := b.nn k j (List.mem_range.mp hk) hj
  have h3 := Rat.mul_le_mul_of_nonneg_right h1 h2
  grind
theorem Tab.idm {n : Nat} : Tab n idm := by
  refine ⟨fun i j _ _ => by unfold Ck.idm; split <;> decide, fun j hj => ?_⟩
  unfold col
  rw [sm_one (a := j) List.nodup_range (List.mem_range.mpr hj) fun x _ hx => by unfold Ck.idm; rw [if_neg hx]]
  unfold Ck.idm; rw [if_pos rfl]; decide
theorem Tab.pw {n : Nat} {A : Mx} (a : Tab n A) : ∀ k, Tab n (pw n A k)
  | 0 => Tab.idm
  | k + 1 => a.mul (Tab.pw a k)
theorem Tab.le1 {n : Nat} {A : Mx} (a : Tab n A) {i j : Nat} (hi : i < n) (hj : j < n) : A i j ≤ 1 :=
  Rat.le_trans (sm_ge_one (f := fun i => A i j) (List.mem_range.mpr hi) fun x hx => a.nn x j (List.mem_range.mp hx) hj) (a.le j hj)
/-! ### the L1 norm of a column -/
def nrm (n : Nat) (A : Mx) (j : Nat) : Rat := sm (rg n) fun i => ab (A i j)
theorem nrm_congr {n : Nat} {A B : Mx} (h : Eqn n A B) {j : Nat} (hj : j < n) : nrm n A j = nrm n B j := sm_congr fun i hi => by rw [h i j (List.mem_range.mp hi) hj]
/-- a table makes no column longer -/
theorem nrm_mul {n : Nat} {A B : Mx} (a : Tab n A) {j : Nat} : nrm n (mul n A B) j ≤ nrm n B j := by
  have h1 : nrm n (mul n A B) j ≤ sm (rg n) fun i => sm (rg n) fun k => A i k * ab (B k j) := sm_le fun i hi => by
    refine Rat.le_trans ab_sm (sm_le fun k hk => ?_)
    rw [ab_mul_nonneg (a.nn i k (List.mem_range.mp hi) (List.mem_range.mp hk))]
    exact Rat.le_refl
  rw [sm_swap] at h1
  refine Rat.le_trans h1 (sm_le fun k hk => ?_)
  rw [sm_mulr]
  have h2 := Rat.mul_le_mul_of_nonneg_right (a.le k (List.mem_range.mp hk)) (ab_nonneg (B k j))
  show col n A k * ab (B k j) ≤ ab (B k j)
  grind
end Ck
end

section
/-! Walks, rings, linear systems. -/
namespace Ck
/-! ### systems of equations -/
theorem hom {n : Nat} : ∀ (rows : List (Nat → Rat)) (us : List Nat), us.Nodup → rows.length < us.length →
    ∃ x : Nat → Rat, (∃ u ∈ us, x u ≠ 0) ∧ ∀ r ∈ rows, sm us (fun u => r u * x u) = 0
  | [], us, _, hl => by
    cases us with
    | nil => simp at hl
    | cons a l => exact ⟨fun _ => 1, ⟨a, List.mem_cons_self, (by decide : (1 : Rat) ≠ 0)⟩, fun r hr => nomatch hr⟩
  | r :: rs, us, nd, hl => by
    by_cases hz : ∀ u ∈ us, r u = 0
    · obtain ⟨x, h1, h2⟩ := hom (n := n) rs us nd (by simp at hl; omega)
      refine ⟨x, h1, fun s hs => ?_⟩
      rcases List.mem_cons.mp hs with rfl | hs
      · exact sm_zero fun u hu => by rw [hz u hu]; grind
      · exact h2 s hs
    · have hex : ∃ u, u ∈ us ∧ r u ≠ 0 := by
        by_cases q : ∃ u, u ∈ us ∧ r u ≠ 0
        · exact q
        · exact absurd (fun u hu => by
            by_cases z : r u = 0
            · exact z
            · exact absurd ⟨u, hu, z⟩ q) hz
      obtain ⟨p, hp, hr0⟩ := hex
      have hlen : (us.erase p).length = us.length - 1 := List.length_erase_of_mem hp
      obtain ⟨x, ⟨u, hu, hxu⟩, h2⟩ := hom (n := n) (rs.map fun s => fun v => s v - s p / r p * r v) (us.erase p) (nd.erase p) (by
        rw [List.length_map, hlen]; simp at hl; omega)
      have hne : ∀ v ∈ us.erase p, v ≠ p := fun v hv e => by
        subst e; exact (List.Nodup.not_mem_erase nd) hv
      refine ⟨fun v => if v = p then - sm (us.erase p) (fun v => r v * x v) / r p else x v, ⟨u, List.mem_of_mem_erase hu, ?_⟩, fun s hs => ?_⟩
      · show (if u = p then _ else x u) ≠ 0
        rw [if_neg (hne u hu)]; exact hxu
      · have pm : us.Perm (p :: us.erase p) := List.perm_cons_erase hp
        rw [sm_perm pm, sm_cons]
        show s p * (if p = p then - sm (us.erase p) (fun v => r v * x v) / r p else x p) + sm (us.erase p) (fun v => s v * (if v = p then - sm (us.erase p) (fun v => r v * x v) / r p else x v)) = 0
        rw [if_pos rfl]
        have e1 : ∀ t : Nat → Rat, sm (us.erase p) (fun v => t v * (if v = p then - sm (us.erase p) (fun v => r v * x v) / r p else x v)) = sm (us.erase p) (fun v => t v * x v) :=
          fun t => sm_congr fun v hv => by rw [if_neg (hne v hv)]
        rw [e1]
        rcases List.mem_cons.mp hs with rfl | hs
        · grind
        · have h3 := h2 _ (List.mem_map_of_mem (f := fun s => fun v => s v - s p / r p * r v) hs)
          have e2 : sm (us.erase p) (fun v => (s v - s p / r p * r v) * x v) = sm (us.erase p) (fun v => s v * x v) - s p / r p * sm (us.erase p) (fun v => r v * x v) := by
            rw [← sm_mul, ← sm_sub]
            exact sm_congr fun v _ => by grind
          have h4 : sm (us.erase p) (fun v => (s v - s p / r p * r v) * x v) = 0 := h3
          rw [e2] at h4
          grind
termination_by rows => rows.length
/-- as many equations as unknowns, one solution at most for 0: one for every right side -/
theorem sqr (rows : List ((Nat → Rat) × Rat)) (us : List Nat) (z : Nat) (hz : z ∉ us) (nd : us.Nodup) (hl : rows.length = us.length)
    (inj : ∀ x : Nat → Rat, (∀ r ∈ rows, sm us (fun u => r.1 u * x u) = 0) → ∀ u ∈ us, x u = 0) :
    ∃ x : Nat → Rat, ∀ r ∈ rows, sm us (fun u => r.1 u * x u) = r.2 := by
  obtain ⟨x, ⟨u, hu, hxu⟩, h2⟩ := hom (n := 0) (rows.map fun r => fun v => if v = z then - r.2 else r.1 v) (us ++ [z])
    (List.nodup_append.mpr ⟨nd, by simp, fun a ha b hb e => hz (by simp at hb; rw [← hb, ← e]; exact ha)⟩) (by simp; omega)
  have key : ∀ r ∈ rows, sm us (fun u => r.1 u * x u) - r.2 * x z = 0 := fun r hr => by
    have h3 := h2 _ (List.mem_map_of_mem (f := fun r : (Nat → Rat) × Rat => fun v => if v = z then - r.2 else r.1 v) hr)
    have h4 : sm (us ++ [z]) (fun v => (if v = z then - r.2 else r.1 v) * x v) = 0 := h3
    rw [sm_append, sm_cons, sm_nil, if_pos rfl] at h4
    have e1 : sm us (fun v => (if v = z then - r.2 else r.1 v) * x v) = sm us (fun v => r.1 v * x v) := sm_congr fun v hv => by
      rw [if_neg (fun e : v = z => hz (by rw [← e]; exact hv))]
    rw [e1] at h4
    grind
  by_cases hxz : x z = 0
  · exfalso
    have h5 := inj x fun r hr => by have := key r hr; grind
    rcases List.mem_append.mp hu with hu | hu
    · exact hxu (h5 u hu)
    · simp at hu; subst hu; exact hxu hxz
  · refine ⟨fun v => x v / x z, fun r hr => ?_⟩
    have e1 : sm us (fun u => r.1 u * (x u / x z)) = sm us (fun u => r.1 u * x u) * (1 / x z) := by
      rw [← sm_mulr]; exact sm_congr fun v _ => by grind
    rw [e1]
    have := key r hr
    grind
/-! ### walks -/
inductive Wk (n : Nat) (A : Mx) : Nat → Nat → Nat → Prop
  | nil {j : Nat} : j < n → Wk n A 0 j j
  | cons {m j k i : Nat} : j < n → 0 < A k j → Wk n A m k i → Wk n A (m + 1) j i
section
variable {n : Nat} {A : Mx} {m m' i j k : Nat}
theorem Wk.lt1 (h : Wk n A m j i) : j < n := by cases h <;> assumption
theorem Wk.lt2 (h : Wk n A m j i) : i < n := by
  induction h with
  | nil h => exact h
  | cons _ _ _ ih => exact ih
theorem Wk.app (h : Wk n A m j k) : Wk n A m' k i → Wk n A (m + m') j i := by
  induction h with
  | nil h => intro g; rw [Nat.zero_add]; exact g
  | cons a b _ ih => intro g; rw [Nat.succ_add]; exact .cons a b (ih g)
theorem Wk.one (hj : j < n) (hi : i < n) (h : 0 < A i j) : Wk n A 1 j i := .cons hj h (.nil hi)
theorem Wk.rep (h : Wk n A m j j) : ∀ k, Wk n A (k * m) j j
  | 0 => by rw [Nat.zero_mul]; exact .nil h.lt1
  | k + 1 => by rw [Nat.succ_mul]; exact (Wk.rep h k).app h
theorem Wk.cut : ∀ {a b : Nat} {j i : Nat}, Wk n A (a + b) j i → ∃ k, Wk n A a j k ∧ Wk n A b k i
  | 0, b, j, i, h => ⟨j, .nil h.lt1, by rw [Nat.zero_add] at h; exact h⟩
  | a + 1, b, j, i, h => by
    rw [show a + 1 + b = (a + b) + 1 by omega] at h
    cases h with
    | cons h1 h2 h3 =>
      obtain ⟨k, g1, g2⟩ := Wk.cut h3
      exact ⟨k, .cons h1 h2 g1, g2⟩
theorem pw_pos (t : Tab n A) : ∀ {m i j : Nat}, i < n → j < n → (0 < pw n A m i j ↔ Wk n A m j i)
  | 0, i, j, hi, hj => by
    show 0 < idm i j ↔ _
    unfold idm
    by_cases e : i = j
    · subst e; rw [if_pos rfl]; exact ⟨fun _ => .nil hi, fun _ => by decide⟩
    · rw [if_neg e]
      refine ⟨fun h => absurd h (by decide), fun h => ?_⟩
      cases h; exact absurd rfl e
  | m + 1, i, j, hi, hj => by
    have h1 : 0 < pw n A (m + 1) i j ↔ 0 < mul n (pw n A m) A i j := by rw [pw_succ' A m i j hi hj]
    rw [h1]
    show 0 < sm (rg n) (fun k => pw n A m i k * A k j) ↔ _
    rw [sm_pos_iff fun k hk => Rat.mul_nonneg ((t.pw m).nn i k hi (List.mem_range.mp hk)) (t.nn k j (List.mem_range.mp hk) hj)]
    constructor
    · rintro ⟨k, hk, p⟩
      have hk := List.mem_range.mp hk
      have p1 := (t.pw m).nn i k hi hk
      have p2 := t.nn k j hk hj
      have q1 : 0 < pw n A m i k := by
        rcases Rat.le_iff_lt_or_eq.mp p1 with h | h
        · exact h
        · rw [← h] at p; grind
      have q2 : 0 < A k j := by
        rcases Rat.le_iff_lt_or_eq.mp p2 with h | h
        · exact h
        · rw [← h] at p; grind
      exact .cons hj q2 ((pw_pos t hi hk).mp q1)
    · intro h
      cases h with
      | cons h1 h2 h3 => exact ⟨_, List.mem_range.mpr h3.lt1, Rat.mul_pos ((pw_pos t hi h3.lt1).mpr h3) h2⟩
end
def Rch (n : Nat) (A : Mx) (j i : Nat) : Prop := ∃ m, Wk n A m j i
theorem Rch.refl {n : Nat} {A : Mx} {j : Nat} (h : j < n) : Rch n A j j := ⟨0, .nil h⟩
theorem Rch.trans {n : Nat} {A : Mx} {i j k : Nat} : Rch n A i j → Rch n A j k → Rch n A i k := fun ⟨_, a⟩ ⟨_, b⟩ => ⟨_, a.app b⟩
theorem Rch.one {n : Nat} {A : Mx} {i j : Nat} (hj : j < n) (hi : i < n) (h : 0 < A i j) : Rch n A j i := ⟨1, Wk.one hj hi h⟩
/-! ### rings -/
noncomputable section
open Classical
def rch (n : Nat) (A : Mx) (c : Nat) : List Nat := (rg n).filter fun i => decide (Rch n A c i)
theorem mem_rch {n : Nat} {A : Mx} {c i : Nat} : i ∈ rch n A c ↔ Rch n A c i := by
  unfold rch
  rw [List.mem_filter, List.mem_range]
  exact ⟨fun h => of_decide_eq_true h.2, fun h => ⟨h.choose_spec.lt2, decide_eq_true h⟩⟩
theorem rch_lt {n : Nat} {A : Mx} {c i : Nat} (h : i ∈ rch n A c) : i < n := List.mem_range.mp (List.mem_filter.mp h).1
theorem rch_nodup {n : Nat} {A : Mx} {c : Nat} : (rch n A c).Nodup := List.nodup_range.filter _
def Ringy (n : Nat) (A : Mx) (c : Nat) : Prop := ∀ o ∈ rch n A c, rch n A o = rch n A c ∧ col n A o = 1
def isHead (n : Nat) (A : Mx) (c : Nat) : Bool := decide ((rch n A c).head? = some c ∧ Ringy n A c)
def rgs (n : Nat) (A : Mx) : List (List Nat) := ((rg n).filter (isHead n A)).map (rch n A)
structure IsRing (n : Nat) (A : Mx) (r : List Nat) : Prop where
  lt : ∀ i ∈ r, i < n
  nd : r.Nodup
  ne : r ≠ []
  eq : ∀ i ∈ r, rch n A i = r
  one : ∀ i ∈ r, col n A i = 1
theorem isRing {n : Nat} {A : Mx} {r : List Nat} (h : r ∈ rgs n A) : IsRing n A r := by
  obtain ⟨c, hc, rfl⟩ := List.mem_map.mp h
  obtain ⟨h1, h2⟩ := List.mem_filter.mp hc
  obtain ⟨h3, h4⟩ := of_decide_eq_true h2
  exact ⟨fun i hi => rch_lt hi, rch_nodup, fun e => (by rw [e] at h3; cases h3), fun i hi => (h4 i hi).1, fun i hi => (h4 i hi).2⟩
theorem ring_of {n : Nat} {A : Mx} {c : Nat} (hc : c < n) (h : Ringy n A c) : rch n A c ∈ rgs n A := by
  have hcm : c ∈ rch n A c := mem_rch.mpr (.refl hc)
  cases e : rch n A c with
  | nil => rw [e] at hcm; cases hcm
  | cons d l =>
    have hd : d ∈ rch n A c := by rw [e]; exact List.mem_cons_self
    have hd2 : rch n A d = rch n A c := (h d hd).1
    refine List.mem_map.mpr ⟨d, List.mem_filter.mpr ⟨List.mem_range.mpr (rch_lt hd), decide_eq_true ⟨by rw [hd2, e]; rfl, fun o ho => ?_⟩⟩, by rw [hd2, e]⟩
    rw [hd2] at ho ⊢; exact h o ho
theorem ring_same {n : Nat} {A : Mx} {r s : List Nat} {i : Nat} (hr : r ∈ rgs n A) (hs : s ∈ rgs n A) (h1 : i ∈ r) (h2 : i ∈ s) : r = s := by
  rw [← (isRing hr).eq i h1, (isRing hs).eq i h2]
theorem nodup_map_on {α β : Type} {f : α → β} : ∀ {l : List α}, (∀ a ∈ l, ∀ b ∈ l, f a = f b → a = b) → l.Nodup → (l.map f).Nodup
  | [], _, _ => List.nodup_nil
  | a :: l, h, nd => by
    rw [List.nodup_cons] at nd
    rw [List.map_cons, List.nodup_cons]
    refine ⟨fun hm => ?_, nodup_map_on (fun x hx y hy => h x (List.mem_cons_of_mem _ hx) y (List.mem_cons_of_mem _ hy)) nd.2⟩
    obtain ⟨b, hb, e⟩ := List.mem_map.mp hm
    have := h b (List.mem_cons_of_mem _ hb) a List.mem_cons_self e
    subst this; exact nd.1 hb
theorem rgs_nodup {n : Nat} {A : Mx} : (rgs n A).Nodup := by
  unfold rgs
  refine nodup_map_on (fun a ha b hb e => ?_) (List.nodup_range.filter _)
  have h1 := (of_decide_eq_true (List.mem_filter.mp ha).2).1
  have h2 := (of_decide_eq_true (List.mem_filter.mp hb).2).1
  rw [e, h2] at h1
  exact (Option.some.inj h1).symm
section
variable {n : Nat} {A : Mx} {r : List Nat}
theorem IsRing.closed (h : IsRing n A r) {i j : Nat} (hj : j ∈ r) (hi : i < n) (p : 0 < A i j) : i ∈ r := by
  rw [← h.eq j hj]; exact mem_rch.mpr (.one (h.lt j hj) hi p)
theorem IsRing.conn (h : IsRing n A r) {i j : Nat} (hj : j ∈ r) (hi : i ∈ r) : Rch n A j i := by
  rw [← h.eq j hj] at hi; exact mem_rch.mp hi
theorem IsRing.zero (h : IsRing n A r) (t : Tab n A) {i j : Nat} (hj : j ∈ r) (hi : i < n) (q : i ∉ r) : A i j = 0 := by
  have h1 := t.nn i j hi (h.lt j hj)
  rcases Rat.le_iff_lt_or_eq.mp h1 with h2 | h2
  · exact absurd (h.closed hj hi h2) q
  · exact h2.symm
theorem IsRing.col (h : IsRing n A r) (t : Tab n A) {j : Nat} (hj : j ∈ r) : sm r (fun i => A i j) = 1 := by
  rw [← h.one j hj]
  exact (sm_part List.nodup_range h.nd (fun x hx => List.mem_range.mpr (h.lt x hx)) fun x hx q => h.zero t hj (List.mem_range.mp hx) q).symm
end
/-- a filter that takes as many takes the same -/
theorem filter_len {α : Type} {p q : α → Bool} : ∀ {l : List α}, (∀ x ∈ l, p x = true → q x = true) → (l.filter q).length ≤ (l.filter p).length → l.filter p = l.filter q
  | [], _, _ => rfl
  | a :: l, h, g => by
    have h' : ∀ x ∈ l, p x = true → q x = true := fun x hx => h x (List.mem_cons_of_mem _ hx)
    have le : (l.filter p).length ≤ (l.filter q).length := by
      clear g h
      induction l with
      | nil => simp
      | cons b l ih =>
        have ih := ih fun x hx => h' x (List.mem_cons_of_mem _ hx)
        have hb := h' b List.mem_cons_self
        cases ep : p b <;> cases eq : q b <;> simp [ep, eq] at hb ⊢ <;> omega
    have ha := h a List.mem_cons_self
    cases ep : p a <;> cases eq : q a <;> simp [ep, eq] at ha g ⊢
    · exact filter_len h' (by simpa using g)
    · omega
    · exact filter_len h' g
/-- what is closed and loses nothing has a ring in it -/
theorem ring_in {n : Nat} {A : Mx} {S : Nat → Prop} (hS : ∀ j, j < n → S j → col n A j = 1 ∧ ∀ i, i < n → 0 < A i j → S i) {j0 : Nat} (hj0 : j0 < n) (h0 : S j0) : ∃ r ∈ rgs n A, ∃ i ∈ r, S i := by
  have reach : ∀ {j i}, S j → Rch n A j i → S i := fun {j i} hj h => by
    obtain ⟨m, h⟩ := h
    induction h with
    | nil _ => exact hj
    | cons a b c ih => exact ih ((hS _ a hj).2 _ c.lt1 b)
  have main : ∀ k j, j < n → S j → (rch n A j).length ≤ k → ∃ r ∈ rgs n A, ∃ i ∈ r, S i := by
    intro k
    induction k with
    | zero =>
      intro j hj _ hl
      have : j ∈ rch n A j := mem_rch.mpr (.refl hj)
      have : 0 < (rch n A j).length := List.length_pos_of_mem this
      omega
    | succ k ih =>
      intro j hj hs hl
      by_cases hr : ∃ i ∈ rch n A j, (rch n A i).length ≤ k
      · obtain ⟨i, hi, hl'⟩ := hr
        exact ih i (rch_lt hi) (reach hs (mem_rch.mp hi)) hl'
      · refine ⟨_, ring_of hj fun o ho => ⟨?_, (hS o (rch_lt ho) (reach hs (mem_rch.mp ho))).1⟩, j, mem_rch.mpr (.refl hj), hs⟩
        have hl2 : ¬ (rch n A o).length ≤ k := fun z => hr ⟨o, ho, z⟩
        refine filter_len (fun x _ hx => decide_eq_true ((mem_rch.mp ho).trans (of_decide_eq_true hx))) ?_
        show (rch n A j).length ≤ (rch n A o).length
        omega
  exact main _ j0 hj0 h0 (Nat.le_refl _)
def loose (n : Nat) (A : Mx) : List Nat := (rg n).filter fun c => decide (∀ r ∈ rgs n A, c ∉ r)
theorem mem_loose {n : Nat} {A : Mx} {c : Nat} : c ∈ loose n A ↔ c < n ∧ ∀ r ∈ rgs n A, c ∉ r := by
  unfold loose
  rw [List.mem_filter, List.mem_range]
  exact ⟨fun h => ⟨h.1, of_decide_eq_true h.2⟩, fun h => ⟨h.1, decide_eq_true h.2⟩⟩
theorem loose_nodup {n : Nat} {A : Mx} : (loose n A).Nodup := List.nodup_range.filter _
theorem max_in : ∀ (l : List Nat) (w : Nat → Rat) {j : Nat}, j ∈ l → ∃ m ∈ l, ∀ k ∈ l, w k ≤ w m
  | [a], w, _, _ => ⟨a, List.mem_cons_self, fun k hk => by simp at hk; subst hk; exact Rat.le_refl⟩
  | a :: b :: l, w, _, _ => by
    obtain ⟨m, hm, h⟩ := max_in (b :: l) w (j := b) List.mem_cons_self
    by_cases c : w a ≤ w m
    · exact ⟨m, List.mem_cons_of_mem _ hm, fun k hk => by
        rcases List.mem_cons.mp hk with rfl | hk
        · exact c
        · exact h k hk⟩
    · refine ⟨a, List.mem_cons_self, fun k hk => ?_⟩
      rcases List.mem_cons.mp hk with rfl | hk
      · exact Rat.le_refl
      · have := h k hk; grind
/-- the greatest value principle -/
theorem max_loose {n : Nat} {A : Mx} (t : Tab n A) {w : Nat → Rat} (h : ∀ j ∈ loose n A, w j ≤ sm (loose n A) fun i => A i j * w i) : ∀ j ∈ loose n A, w j ≤ 0 := by
  intro j hj
  by_cases hc : w j ≤ 0
  · exact hc
  exfalso
  obtain ⟨m, hm, hmax⟩ := max_in _ w hj
  have hpos : 0 < w m := by have := hmax j hj; grind
  have key : ∀ c, c < n → (c ∈ loose n A ∧ w c = w m) → col n A c = 1 ∧ ∀ i, i < n → 0 < A i c → (i ∈ loose n A ∧ w i = w m) := by
    intro c hcn ⟨hcl, hcw⟩
    have h1 := h c hcl
    have nn : ∀ i ∈ loose n A, 0 ≤ A i c := fun i hi => t.nn i c (mem_loose.mp hi).1 hcn
    have h2 : sm (loose n A) (fun i => A i c * w i) ≤ sm (loose n A) (fun i => A i c * w m) := sm_le fun i hi => Rat.mul_le_mul_of_nonneg_left (hmax i hi) (nn i hi)
    rw [sm_mulr] at h2
    have hsplit := sm_split (l := rg n) (f := fun i => A i c) (fun c => decide (∀ r ∈ rgs n A, c ∉ r))
    have hl : (rg n).filter (fun c => decide (∀ r ∈ rgs n A, c ∉ r)) = loose n A := rfl
    rw [hl] at hsplit
    have nn2 : ∀ i ∈ (rg n).filter (fun x => !decide (∀ r ∈ rgs n A, x ∉ r)), 0 ≤ A i c := fun i hi => t.nn i c (List.mem_range.mp (List.mem_filter.mp hi).1) hcn
    have h3 := sm_nonneg nn2
    have h4 := t.le c hcn
    have h5 : col n A c = sm (loose n A) (fun i => A i c) + sm ((rg n).filter (fun x => !decide (∀ r ∈ rgs n A, x ∉ r))) (fun i => A i c) := hsplit
    have h6 : sm (loose n A) (fun i => A i c) ≤ 1 := by grind
    have h7 : sm (loose n A) (fun i => A i c) = 1 := by
      have h8 : w m ≤ sm (loose n A) (fun i => A i c) * w m := by grind
      have h9 : 1 * w m ≤ sm (loose n A) (fun i => A i c) * w m := by grind
      have := Rat.le_of_mul_le_mul_right h9 hpos
      grind
    have h8 : col n A c = 1 := by grind
    have h9 : sm ((rg n).filter (fun x => !decide (∀ r ∈ rgs n A, x ∉ r))) (fun i => A i c) = 0 := by grind
    refine ⟨h8, fun i hi p => ?_⟩
    have hil : i ∈ loose n A := by
      by_cases q : i ∈ loose n A
      · exact q
      · have hi2 : i ∈ (rg n).filter (fun x => !decide (∀ r ∈ rgs n A, x ∉ r)) := List.mem_filter.mpr ⟨List.mem_range.mpr hi, by
          have q' : ¬ ∀ r ∈ rgs n A, i ∉ r := fun z => q (mem_loose.mpr ⟨hi, z⟩)
          rw [decide_eq_false q']; rfl⟩
        have := sm_eq_zero nn2 h9 i hi2
        grind
    refine ⟨hil, ?_⟩
    have tight := sm_tight (l := loose n A) (f := fun i => A i c * w i) (g := fun i => A i c * w m) (fun i hi => Rat.mul_le_mul_of_nonneg_left (hmax i hi) (nn i hi)) (by rw [sm_mulr, h7]; grind) i hil
    have tight' : A i c * w i = A i c * w m := tight
    have : A i c ≠ 0 := by grind
    have h10 : A i c * (w i - w m) = 0 := by grind
    rcases Rat.mul_eq_zero.mp h10 with z | z
    · exact absurd z this
    · grind
  obtain ⟨r, hr, i, hir, hil, _⟩ := ring_in (S := fun c => c ∈ loose n A ∧ w c = w m) key (mem_loose.mp hm).1 ⟨hm, rfl⟩
  exact (mem_loose.mp hil).2 r hr hir
/-! ### what stands still in a ring -/
section
variable {n : Nat} {A : Mx} {r : List Nat}
theorem still_abs (h : IsRing n A r) (t : Tab n A) {v : Nat → Rat} (hv : ∀ i ∈ r, sm r (fun j => A i j * v j) = v i) : ∀ i ∈ r, ab (v i) = sm r fun j => A i j * ab (v j) := by
  have nn : ∀ i ∈ r, ∀ j ∈ r, 0 ≤ A i j := fun i hi j hj => t.nn i j (h.lt i hi) (h.lt j hj)
  refine sm_tight (fun i hi => ?_) ?_
  · rw [← hv i hi]
    refine Rat.le_trans ab_sm (sm_le fun j hj => ?_)
    rw [ab_mul_nonneg (nn i hi j hj)]; exact Rat.le_refl
  · rw [sm_swap]
    refine sm_le fun j hj => ?_
    rw [sm_mulr, h.col t hj]; grind
theorem still_spread (h : IsRing n A r) (t : Tab n A) {u : Nat → Rat} (h0 : ∀ i ∈ r, 0 ≤ u i) (hu : ∀ i ∈ r, u i = sm r fun j => A i j * u j) {j : Nat} (hj : j ∈ r) (hp : 0 < u j) : ∀ i ∈ r, 0 < u i := by
  intro i hi
  obtain ⟨m, w⟩ := h.conn hj hi
  induction w with
  | nil _ => exact hp
  | @cons m a b c ha hb hw ih =>
    have hbr : b ∈ r := h.closed hj hw.lt1 hb
    refine ih hbr ?_ hi
    rw [hu b hbr]
    exact sm_pos (fun k hk => Rat.mul_nonneg (t.nn b k (h.lt b hbr) (h.lt k hk)) (h0 k hk)) hj (Rat.mul_pos hb hp)
theorem still_unique (h : IsRing n A r) (t : Tab n A) {v : Nat → Rat} (hv : ∀ i ∈ r, sm r (fun j => A i j * v j) = v i) (hs : sm r v = 0) : ∀ i ∈ r, v i = 0 := by
  have ha := still_abs h t hv
  have e1 : ∀ i ∈ r, ab (v i) + v i = sm r fun j => A i j * (ab (v j) + v j) := fun i hi => by
    have : sm r (fun j => A i j * (ab (v j) + v j)) = sm r (fun j => A i j * ab (v j)) + sm r (fun j => A i j * v j) := by
      rw [← sm_add]; exact sm_congr fun j _ => by grind
    rw [this, ← ha i hi, hv i hi]
  have e2 : ∀ i ∈ r, ab (v i) - v i = sm r fun j => A i j * (ab (v j) - v j) := fun i hi => by
    have : sm r (fun j => A i j * (ab (v j) - v j)) = sm r (fun j => A i j * ab (v j)) - sm r (fun j => A i j * v j) := by
      rw [← sm_sub]; exact sm_congr fun j _ => by grind
    rw [this, ← ha i hi, hv i hi]
  have n1 : ∀ i ∈ r, 0 ≤ ab (v i) + v i := fun i _ => by have := neg_le_ab (v i); grind
  have n2 : ∀ i ∈ r, 0 ≤ ab (v i) - v i := fun i _ => by have := le_ab (v i); grind
  intro i hi
  by_cases c : v i = 0
  · exact c
  exfalso
  by_cases p : 0 < v i
  · have q : 0 < ab (v i) + v i := by have := ab_nonneg (v i); grind
    have all := still_spread h t n1 e1 hi q
    have pos : ∀ k ∈ r, 0 ≤ v k := fun k hk => by
      have := all k hk; unfold ab at this; split at this <;> grind
    have := sm_pos pos hi p
    grind
  · have q : 0 < ab (v i) - v i := by have := ab_nonneg (v i); grind
    have all := still_spread h t n2 e2 hi q
    have pos : ∀ k ∈ r, 0 ≤ - v k := fun k hk => by
      have := all k hk; unfold ab at this; split at this <;> grind
    have := sm_pos pos hi (by grind)
    have e : sm r (fun k => - v k) = - sm r v := by
      have : sm r (fun k => (-1) * v k) = (-1) * sm r v := sm_mul _
      have e3 : sm r (fun k => - v k) = sm r (fun k => (-1) * v k) := sm_congr fun k _ => by grind
      rw [e3, this]; grind
    grind
theorem still_exists (h : IsRing n A r) (t : Tab n A) : ∃ p : Nat → Rat, (∀ i ∈ r, sm r (fun j => A i j * p j) = p i) ∧ sm r p = 1 ∧ ∀ i ∈ r, 0 ≤ p i := by
  cases hr : r with
  | nil => exact absurd hr h.ne
  | cons a l =>
    rw [← hr]
    obtain ⟨x, ⟨u, hu, hxu⟩, hx⟩ := hom (n := 0) (l.map fun i => fun j => A i j - idm i j) r h.nd (by rw [List.length_map, hr]; simp)
    have hone : ∀ i ∈ r, sm r (fun j => (A i j - idm i j) * x j) = sm r (fun j => A i j * x j) - x i := fun i hi => by
      have e : sm r (fun j => (A i j - idm i j) * x j) = sm r (fun j => A i j * x j) - sm r (fun j => idm i j * x j) := by
        rw [← sm_sub]; exact sm_congr fun j _ => by grind
      rw [e, sm_one (f := fun j => idm i j * x j) h.nd hi fun k _ hk => by unfold idm; rw [if_neg (Ne.symm hk)]; grind]
      unfold idm; rw [if_pos rfl]; grind
    have ht : ∀ i ∈ l, sm r (fun j => A i j * x j) - x i = 0 := fun i hi => by
      rw [← hone i (by rw [hr]; exact List.mem_cons_of_mem _ hi)]
      exact hx _ (List.mem_map_of_mem (f := fun i => fun j => A i j - idm i j) hi)
    have hall : sm r (fun i => sm r (fun j => A i j * x j) - x i) = 0 := by
      rw [sm_sub, sm_swap]
      have : sm r (fun j => sm r fun i => A i j * x j) = sm r x := sm_congr fun j hj => by rw [sm_mulr, h.col t hj]; grind
      rw [this]; grind
    have ha : sm r (fun j => A a j * x j) - x a = 0 := by
      have e : sm r (fun i => sm r (fun j => A i j * x j) - x i) = (sm r (fun j => A a j * x j) - x a) + sm l (fun i => sm r (fun j => A i j * x j) - x i) := by
        conv => lhs; arg 1; rw [hr]
        exact sm_cons
      rw [e, sm_zero ht] at hall
      grind
    have hv : ∀ i ∈ r, sm r (fun j => A i j * x j) = x i := fun i hi => by
      rw [hr] at hi
      rcases List.mem_cons.mp hi with rfl | hi
      · grind
      · have := ht i hi; grind
    have hab := still_abs h t hv
    have hS : 0 < sm r fun j => ab (x j) := sm_pos (fun i _ => ab_nonneg _) hu (by
      have := ab_nonneg (x u)
      rcases Rat.le_iff_lt_or_eq.mp this with z | z
      · exact z
      · exact absurd (ab_zero_of z.symm) hxu)
    have hS0 : sm r (fun j => ab (x j)) ≠ 0 := by grind
    refine ⟨fun j => ab (x j) * (1 / sm r fun j => ab (x j)), fun i hi => ?_, ?_, fun i _ => Rat.mul_nonneg (ab_nonneg _) ?_⟩
    · show sm r (fun j => A i j * (ab (x j) * (1 / sm r fun j => ab (x j)))) = ab (x i) * (1 / sm r fun j => ab (x j))
      rw [hab i hi, ← sm_mulr]
      exact sm_congr fun j _ => by grind
    · rw [sm_mulr]; grind
    · have := Rat.inv_pos.mpr hS
      rw [Rat.div_def]; grind
end
end
end Ck
end

section
/-! Fractions in lowest terms, bounds of their sizes. -/
namespace Ck
theorem gcd_pos_of_ne {a b : Int} (hb : b ≠ 0) : 0 < Nat.gcd a.natAbs b.natAbs := Nat.gcd_pos_of_pos_right _ (Int.natAbs_pos.mpr hb)
/-- the divisor with the sign of what is below -/
def dvs (a b : Int) : Int := if b < 0 then -((Nat.gcd a.natAbs b.natAbs : Nat) : Int) else ((Nat.gcd a.natAbs b.natAbs : Nat) : Int)
theorem dvs_ne {a b : Int} (hb : b ≠ 0) : dvs a b ≠ 0 := by
  have := gcd_pos_of_ne (a := a) hb
  unfold dvs; split <;> omega
theorem dvs_abs {a b : Int} : (dvs a b).natAbs = Nat.gcd a.natAbs b.natAbs := by
  unfold dvs; split <;> simp
theorem frac_pair (a b : Int) (hb : b ≠ 0) : a.fdiv (dvs a b) = ((a : Rat) / b).num ∧ b.fdiv (dvs a b) = (((a : Rat) / b).den : Int) := by
  have hg := gcd_pos_of_ne (a := a) hb
  have ha : ((Nat.gcd a.natAbs b.natAbs : Nat) : Int) ∣ a := Int.natAbs_dvd_natAbs.mp (by rw [Int.natAbs_natCast]; exact Nat.gcd_dvd_left _ _)
  have hbd : ((Nat.gcd a.natAbs b.natAbs : Nat) : Int) ∣ b := Int.natAbs_dvd_natAbs.mp (by rw [Int.natAbs_natCast]; exact Nat.gcd_dvd_right _ _)
  obtain ⟨x, hx⟩ := ha
  obtain ⟨y, hy⟩ := hbd
  have hgc : b.gcd a = Nat.gcd a.natAbs b.natAbs := by rw [Int.gcd_comm]; rfl
  rw [← Rat.divInt_eq_div, Rat.num_divInt, Rat.den_divInt, if_neg hb, hgc]
  generalize hG : Nat.gcd a.natAbs b.natAbs = g at *
  have hg0 : (g : Int) ≠ 0 := by omega
  have hgg : (0 : Int) < g := by omega
  unfold dvs
  rw [hG]
  by_cases hn : b < 0
  · rw [if_pos hn, Int.sign_eq_neg_one_of_neg hn]
    have hy0 : y < 0 := by
      rcases Int.lt_trichotomy y 0 with h | h | h
      · exact h
      · rw [h, Int.mul_zero] at hy; omega
      · have := Int.mul_pos hgg h; omega
    refine ⟨?_, ?_⟩
    · rw [hx, show (g : Int) * x = (-(g : Int)) * (-x) by rw [Int.neg_mul_neg], Int.mul_fdiv_cancel_left _ (by omega)]
      rw [Int.neg_mul_neg, show (-1 : Int) * ((g : Int) * x) = (g : Int) * (-x) by rw [Int.mul_neg]; omega, Int.mul_ediv_cancel_left _ hg0]
    · rw [hy, show (g : Int) * y = (-(g : Int)) * (-y) by rw [Int.neg_mul_neg], Int.mul_fdiv_cancel_left _ (by omega)]
      rw [Int.neg_mul_neg, Int.natAbs_mul, Int.natAbs_natCast, Nat.mul_div_cancel_left _ hg]
      omega
  · rw [if_neg hn]
    have hp : 0 < b := by omega
    rw [Int.sign_eq_one_of_pos hp]
    have hy0 : 0 < y := by
      rcases Int.lt_trichotomy y 0 with h | h | h
      · have := Int.mul_neg_of_pos_of_neg hgg h; omega
      · rw [h, Int.mul_zero] at hy; omega
      · exact h
    refine ⟨?_, ?_⟩
    · rw [hx, Int.mul_fdiv_cancel_left _ hg0, Int.one_mul, Int.mul_ediv_cancel_left _ hg0]
    · rw [hy, Int.mul_fdiv_cancel_left _ hg0, Int.natAbs_mul, Int.natAbs_natCast, Nat.mul_div_cancel_left _ hg]
      omega
/-! ### sizes -/
def Bd (k : Nat) (q : Rat) : Prop := q.num.natAbs < 2 ^ k ∧ q.den < 2 ^ k
theorem Bd.mono {k m : Nat} {q : Rat} (h : Bd k q) (hk : k ≤ m) : Bd m q :=
  ⟨Nat.lt_of_lt_of_le h.1 (Nat.pow_le_pow_right (by decide) hk), Nat.lt_of_lt_of_le h.2 (Nat.pow_le_pow_right (by decide) hk)⟩
theorem num_den (q : Rat) : (q.num : Rat) / ((q.den : Int) : Rat) = q := by
  rw [← Rat.divInt_eq_div]; exact Rat.num_divInt_den q
theorem den_ne (q : Rat) : ((q.den : Int) : Rat) ≠ 0 := by
  have := q.den_pos
  have h : (0 : Rat) < ((q.den : Int) : Rat) := Rat.intCast_pos.mpr (by omega)
  grind
theorem num_eq (q : Rat) : (q.num : Rat) = q * ((q.den : Int) : Rat) := by
  have h1 := num_den q
  have h2 := den_ne q
  grind
theorem q_add (p q : Rat) : ((p.num * (q.den : Int) + q.num * (p.den : Int) : Int) : Rat) / ((((p.den : Int) * (q.den : Int)) : Int) : Rat) = p + q := by
  have h1 := num_eq p; have h2 := num_eq q
  have h3 := den_ne p; have h4 := den_ne q
  rw [Rat.intCast_add, Rat.intCast_mul, Rat.intCast_mul, Rat.intCast_mul, h1, h2]
  have : ((p.den : Int) : Rat) * ((q.den : Int) : Rat) ≠ 0 := fun e => by
    rcases Rat.mul_eq_zero.mp e with e | e
    · exact h3 e
    · exact h4 e
  grind
theorem q_sub (p q : Rat) : ((p.num * (q.den : Int) - q.num * (p.den : Int) : Int) : Rat) / ((((p.den : Int) * (q.den : Int)) : Int) : Rat) = p - q := by
  have h1 := num_eq p; have h2 := num_eq q
  have h3 := den_ne p; have h4 := den_ne q
  rw [Rat.intCast_sub, Rat.intCast_mul, Rat.intCast_mul, Rat.intCast_mul, h1, h2]
  have : ((p.den : Int) : Rat) * ((q.den : Int) : Rat) ≠ 0 := fun e => by
    rcases Rat.mul_eq_zero.mp e with e | e
    · exact h3 e
    · exact h4 e
  grind
theorem q_mul (p q : Rat) : ((p.num * q.num : Int) : Rat) / ((((p.den : Int) * (q.den : Int)) : Int) : Rat) = p * q := by
  have h1 := num_eq p; have h2 := num_eq q
  have h3 := den_ne p; have h4 := den_ne q
  rw [Rat.intCast_mul, Rat.intCast_mul, h1, h2]
  grind
theorem q_div (p q : Rat) (hq : q ≠ 0) : ((p.num * (q.den : Int) : Int) : Rat) / ((((p.den : Int) * q.num) : Int) : Rat) = p / q := by
  have h1 := num_eq p; have h2 := num_eq q
  have h3 := den_ne p; have h4 := den_ne q
  rw [Rat.intCast_mul, Rat.intCast_mul, h1, h2]
  grind
theorem q_clr (p x h : Rat) : ((p.num * ((x.den : Int) * (h.den : Int)) - x.num * h.num * (p.den : Int) : Int) : Rat) / (((p.den : Int) * ((x.den : Int) * (h.den : Int)) : Int) : Rat) = p - x * h := by
  have h1 := num_eq p; have h2 := num_eq x; have h3 := num_eq h
  have h4 := den_ne p; have h5 := den_ne x; have h6 := den_ne h
  rw [Rat.intCast_sub, Rat.intCast_mul, Rat.intCast_mul, Rat.intCast_mul, Rat.intCast_mul, Rat.intCast_mul, h1, h2, h3]
  grind
theorem lt_mul {a b x y : Nat} (h1 : a < 2 ^ x) (h2 : b < 2 ^ y) : a * b < 2 ^ (x + y) := by
  rw [Nat.pow_add]; exact Nat.mul_lt_mul'' h1 h2
theorem lt_add {a b x : Nat} (h1 : a < 2 ^ x) (h2 : b < 2 ^ x) : a + b < 2 ^ (x + 1) := by
  rw [Nat.pow_succ]; omega
theorem lt_pw {a x y : Nat} (h1 : a < 2 ^ x) (h : x ≤ y) : a < 2 ^ y := Nat.lt_of_lt_of_le h1 (Nat.pow_le_pow_right (by decide) h)
/-- over a number D, at most m -/
def Fb (D m : Nat) (q : Rat) : Prop := q.den ∣ D ∧ q.num.natAbs ≤ m * q.den
theorem Fb.bd {D m k : Nat} {q : Rat} (h : Fb D m q) (hD : 0 < D) (hm : 1 ≤ m) (hk : m * D < 2 ^ k) : Bd k q := by
  have h1 := Nat.le_of_dvd hD h.1
  have h2 : m * q.den ≤ m * D := Nat.mul_le_mul_left _ h1
  have h3 : D ≤ m * D := Nat.le_mul_of_pos_left _ hm
  exact ⟨Nat.lt_of_le_of_lt (Nat.le_trans h.2 h2) hk, Nat.lt_of_le_of_lt (Nat.le_trans h1 h3) hk⟩
/-- q times D is an integer: its denominator divides D -/
theorem den_dvd {q : Rat} {D : Nat} (hD : 0 < D) {z : Int} (h : q * ((D : Int) : Rat) = (z : Rat)) : q.den ∣ D := by
  have hD0 : ((D : Int) : Rat) ≠ 0 := by
    have : (0 : Rat) < ((D : Int) : Rat) := Rat.intCast_pos.mpr (by omega)
    grind
  have e : q = (z : Rat) / ((D : Int) : Rat) := by grind
  have hd := Rat.den_divInt z (D : Int)
  rw [Rat.divInt_eq_div, ← e, if_neg (by omega : (D : Int) ≠ 0), Int.natAbs_natCast] at hd
  rw [hd]
  exact Nat.div_dvd_of_dvd (Int.gcd_dvd_natAbs_left (D : Int) z)
theorem den_int {q : Rat} {D : Nat} (h : q.den ∣ D) : ∃ z : Int, q * ((D : Int) : Rat) = (z : Rat) := by
  obtain ⟨c, rfl⟩ := h
  refine ⟨q.num * (c : Int), ?_⟩
  have h1 := num_eq q
  rw [Rat.intCast_mul, h1, Int.natCast_mul, Rat.intCast_mul]
  grind
theorem num_le {q : Rat} {m : Nat} : q.num.natAbs ≤ m * q.den ↔ ab q ≤ ((m : Int) : Rat) := by
  have hd : (0 : Rat) < ((q.den : Int) : Rat) := Rat.intCast_pos.mpr (by have := q.den_pos; omega)
  have e : ab q * ((q.den : Int) : Rat) = ((q.num.natAbs : Int) : Rat) := by
    have h1 := num_eq q
    unfold ab
    by_cases c : q < 0
    · rw [if_pos c]
      have : q.num < 0 := Rat.intCast_neg_iff.mp (by
        rw [h1]
        have := Rat.mul_lt_mul_of_pos_right c hd
        grind)
      have e2 : ((q.num.natAbs : Nat) : Int) = - q.num := by omega
      rw [e2, Rat.intCast_neg, h1]; grind
    · rw [if_neg c]
      have : 0 ≤ q.num := Rat.num_nonneg.mpr (by grind)
      have e2 : ((q.num.natAbs : Nat) : Int) = q.num := by omega
      rw [e2, h1]
  have e3 : ((m * q.den : Nat) : Int) = (m : Int) * (q.den : Int) := Int.natCast_mul _ _
  constructor
  · intro h
    have h' : ((q.num.natAbs : Int) : Rat) ≤ (((m * q.den : Nat) : Int) : Rat) := Rat.intCast_le_intCast.mpr (by omega)
    rw [← e, e3, Rat.intCast_mul] at h'
    exact Rat.le_of_mul_le_mul_right h' hd
  · intro h
    have h' := Rat.mul_le_mul_of_nonneg_right h (Rat.le_of_lt hd)
    rw [e, ← Rat.intCast_mul, ← e3] at h'
    have := Rat.intCast_le_intCast.mp h'
    omega
theorem Fb.iff {D m : Nat} {q : Rat} (hD : 0 < D) : Fb D m q ↔ (∃ z : Int, q * ((D : Int) : Rat) = (z : Rat)) ∧ ab q ≤ ((m : Int) : Rat) :=
  ⟨fun h => ⟨den_int h.1, num_le.mp h.2⟩, fun h => ⟨let ⟨_, e⟩ := h.1; den_dvd hD e, num_le.mpr h.2⟩⟩
theorem Fb.add {D m k : Nat} {p q : Rat} (hD : 0 < D) (h : Fb D m p) (g : Fb D k q) : Fb D (m + k) (p + q) := by
  obtain ⟨⟨x, hx⟩, h2⟩ := (Fb.iff hD).mp h
  obtain ⟨⟨y, hy⟩, g2⟩ := (Fb.iff hD).mp g
  refine (Fb.iff hD).mpr ⟨⟨x + y, by rw [Rat.intCast_add]; grind⟩, ?_⟩
  have := ab_add p q
  have e : (((m + k : Nat) : Int) : Rat) = ((m : Int) : Rat) + ((k : Int) : Rat) := by rw [Int.natCast_add, Rat.intCast_add]
  rw [e]; grind
theorem Fb.mul {D E m k : Nat} {p q : Rat} (hD : 0 < D) (hE : 0 < E) (h : Fb D m p) (g : Fb E k q) : Fb (D * E) (m * k) (p * q) := by
  obtain ⟨⟨x, hx⟩, h2⟩ := (Fb.iff hD).mp h
  obtain ⟨⟨y, hy⟩, g2⟩ := (Fb.iff hE).mp g
  refine (Fb.iff (Nat.mul_pos hD hE)).mpr ⟨⟨x * y, by rw [Rat.intCast_mul, Int.natCast_mul, Rat.intCast_mul]; grind⟩, ?_⟩
  have e : (((m * k : Nat) : Int) : Rat) = ((m : Int) : Rat) * ((k : Int) : Rat) := by rw [Int.natCast_mul, Rat.intCast_mul]
  have e1 : ab (p * q) = ab p * ab q := by
    by_cases c : 0 ≤ p
    · rw [ab_mul_nonneg c, ab_of_nonneg c]
    · have h1 : ab (-p * q) = -p * ab q := ab_mul_nonneg (by grind)
      have h2 : ab p = -p := by unfold ab; rw [if_pos (by grind)]
      rw [h2, ← h1, ← ab_neg (p * q)]; congr 1; grind
  rw [e1, e]
  exact Rat.le_trans (Rat.mul_le_mul_of_nonneg_right h2 (ab_nonneg q)) (Rat.mul_le_mul_of_nonneg_left g2 (Rat.le_trans (ab_nonneg p) h2))
theorem Fb.neg {D m : Nat} {p : Rat} (h : Fb D m p) : Fb D m (-p) := by
  unfold Fb; rw [Rat.neg_den, Rat.neg_num, Int.natAbs_neg]; exact h
theorem Fb.sub {D m k : Nat} {p q : Rat} (hD : 0 < D) (h : Fb D m p) (g : Fb D k q) : Fb D (m + k) (p - q) := by
  rw [Rat.sub_eq_add_neg]; exact h.add hD g.neg
theorem Fb.mono {D E m k : Nat} {p : Rat} (h : Fb D m p) (hD : D ∣ E) (hm : m ≤ k) : Fb E k p := ⟨Nat.dvd_trans h.1 hD, Nat.le_trans h.2 (Nat.mul_le_mul_right _ hm)⟩
theorem Fb.zero {D m : Nat} : Fb D m 0 := ⟨Nat.one_dvd _, Nat.zero_le _⟩
theorem Fb.one {D m : Nat} (h : 1 ≤ m) : Fb D m 1 := ⟨Nat.one_dvd _, by show 1 ≤ m * 1; omega⟩
theorem sm_range_succ {f : Nat → Rat} {i : Nat} : sm (rg (i + 1)) f = sm (rg i) f + f i := by
  rw [show rg (i + 1) = rg i ++ [i] from List.range_succ, sm_append, sm_cons, sm_nil]; grind
theorem Fb.sum {D m : Nat} (hD : 0 < D) {f : Nat → Rat} : ∀ n, (∀ i, i < n → Fb D m (f i)) → Fb D (n * m) (sm (rg n) f)
  | 0, _ => .zero
  | n + 1, h => by
    rw [sm_range_succ, Nat.succ_mul]
    exact (Fb.sum hD n fun i hi => h i (by omega)).add hD (h n (by omega))
end Ck
end

section
/-! Rows brought to a reduced form: what one column does; the solution; the sizes. -/
namespace Ck
/-- m rows, w unknowns, the right sides in column w; x the one solution -/
structure Sys (m w : Nat) (F : Mx) (x : Nat → Rat) : Prop where
  sol : ∀ k, k < m → sm (rg w) (fun j => F k j * x j) = F k w
  uni : ∀ y : Nat → Rat, (∀ k, k < m → sm (rg w) (fun j => F k j * y j) = F k w) → ∀ j, j < w → y j = x j
structure RInv (m w c : Nat) (F : Mx) (x : Nat → Rat) : Prop extends Sys m w F x where
  unit : ∀ k j, k < m → j < c → F k j = if k = j then 1 else 0
/-- all entries over one number -/
def Siz (m w : Nat) (F : Mx) (d n : Nat) : Prop := ∃ D : Nat, 0 < D ∧ D < 2 ^ d ∧ ∀ k j, k < m → j ≤ w → ∃ z : Int, F k j * ((D : Int) : Rat) = (z : Rat) ∧ z.natAbs < 2 ^ n
def swp (F : Mx) (c f : Nat) : Mx := fun i => if i = c then F f else if i = f then F c else F i
def stp (F : Mx) (c f : Nat) : Mx := fun i j => if i = c then swp F c f c j / swp F c f c c else swp F c f i j - swp F c f i c * (swp F c f c j / swp F c f c c)
section
variable {m w c f : Nat} {F : Mx} {x : Nat → Rat}
theorem swp_lt (hc : c < m) (hf : f < m) {i : Nat} (hi : i < m) : ∃ i', i' < m ∧ swp F c f i = F i' := by
  unfold swp
  split
  · exact ⟨f, hf, rfl⟩
  · split
    · exact ⟨c, hc, rfl⟩
    · exact ⟨i, hi, rfl⟩
theorem swp_onto (hc : c < m) (hf : f < m) {i : Nat} (hi : i < m) : ∃ i', i' < m ∧ swp F c f i' = F i := by
  by_cases h1 : i = c
  · subst h1
    by_cases h2 : f = i
    · subst h2; exact ⟨f, hi, by unfold swp; rw [if_pos rfl]⟩
    · exact ⟨f, hf, by unfold swp; rw [if_neg h2, if_pos rfl]⟩
  · by_cases h2 : i = f
    · subst h2; exact ⟨c, hc, by unfold swp; rw [if_pos rfl]⟩
    · exact ⟨i, hi, by unfold swp; rw [if_neg h1, if_neg h2]⟩
theorem Sys.swp (S : Sys m w F x) (hc : c < m) (hf : f < m) : Sys m w (Ck.swp F c f) x := by
  refine ⟨fun k hk => ?_, fun y hy => S.uni y fun k hk => ?_⟩
  · obtain ⟨i, hi, e⟩ := swp_lt (F := F) hc hf hk
    rw [e]; exact S.sol i hi
  · obtain ⟨i, hi, e⟩ := swp_onto (F := F) hc hf hk
    rw [← e]; exact hy i hi
/-- another equation with the same solutions -/
theorem Sys.rows {G : Mx} (S : Sys m w F x) (h1 : ∀ y : Nat → Rat, (∀ k, k < m → sm (rg w) (fun j => F k j * y j) = F k w) → ∀ k, k < m → sm (rg w) (fun j => G k j * y j) = G k w)
    (h2 : ∀ y : Nat → Rat, (∀ k, k < m → sm (rg w) (fun j => G k j * y j) = G k w) → ∀ k, k < m → sm (rg w) (fun j => F k j * y j) = F k w) : Sys m w G x :=
  ⟨h1 x S.sol, fun y hy => S.uni y (h2 y hy)⟩
/-- a pivot is there -/
theorem RInv.piv (R : RInv m w c F x) (hc : c < w) : ∃ k, c ≤ k ∧ k < m ∧ F k c ≠ 0 := by
  by_cases h : ∃ k, c ≤ k ∧ k < m ∧ F k c ≠ 0
  · exact h
  exfalso
  have hz : ∀ k, c ≤ k → k < m → F k c = 0 := fun k h1 h2 => by
    by_cases q : F k c = 0
    · exact q
    · exact absurd ⟨k, h1, h2, q⟩ h
  -- e_c less what the pivots have of it is a way that gives 0
  have key : ∀ k, k < m → sm (rg w) (fun j => F k j * (x j + (if j = c then 1 else if j < c then - (if j < m then F j c else 0) else 0))) = F k w := fun k hk => by
    have e1 : sm (rg w) (fun j => F k j * (x j + (if j = c then 1 else if j < c then - (if j < m then F j c else 0) else 0))) = sm (rg w) (fun j => F k j * x j) + sm (rg w) (fun j => F k j * (if j = c then 1 else if j < c then - (if j < m then F j c else 0) else 0)) := by
      rw [← sm_add]; exact sm_congr fun j _ => by grind
    rw [e1, R.sol k hk]
    have e2 : sm (rg w) (fun j => F k j * (if j = c then 1 else if j < c then - (if j < m then F j c else 0) else 0)) = 0 := by
      by_cases hkc : k < c
      · have e3 : sm (rg w) (fun j => F k j * (if j = c then 1 else if j < c then - (if j < m then F j c else 0) else 0)) = sm (rg w) (fun j => (if j = c then F k c else 0) + (if j = k then - F k c else 0)) := sm_congr fun j hj => by
          by_cases h1 : j = c
          · subst h1
            rw [if_pos rfl, if_pos rfl, if_neg (by omega)]; grind
          · rw [if_neg h1, if_neg h1]
            by_cases h2 : j < c
            · rw [if_pos h2, R.unit k j hk h2]
              by_cases h3 : k = j
              · subst h3; rw [if_pos rfl, if_pos rfl, if_pos hk]; grind
              · rw [if_neg h3, if_neg (show ¬ j = k from fun e => h3 e.symm)]; grind
            · rw [if_neg h2, if_neg (by omega)]; grind
        rw [e3, sm_add, sm_one (a := c) List.nodup_range (List.mem_range.mpr hc) fun y _ hy => by rw [if_neg hy], sm_one (a := k) List.nodup_range (List.mem_range.mpr (by omega)) fun y _ hy => by rw [if_neg hy], if_pos rfl, if_pos rfl]
        grind
      · refine sm_zero fun j hj => ?_
        by_cases h1 : j = c
        · subst h1; rw [hz k (by omega) hk]; grind
        · rw [if_neg h1]
          by_cases h2 : j < c
          · rw [if_pos h2, R.unit k j hk h2, if_neg (by omega)]; grind
          · rw [if_neg h2]; grind
    rw [e2]; grind
  have := R.uni _ key c hc
  rw [if_pos rfl] at this
  grind
theorem RInv.step (R : RInv m w c F x) (hc : c < w) (hf : f < m) (hcf : c ≤ f) (hn : F f c ≠ 0) : RInv m w (c + 1) (stp F c f) x := by
  have hcm : c < m := by omega
  have S := R.toSys.swp hcm hf
  have hp : swp F c f c c ≠ 0 := by unfold swp; rw [if_pos rfl]; exact hn
  generalize hG : swp F c f = G at *
  have hstp : stp F c f = fun i j => if i = c then G c j / G c c else G i j - G i c * (G c j / G c c) := by
    funext i j; unfold stp; rw [hG]
  rw [hstp]
  -- the unit columns stay
  have hunit : ∀ k j, k < m → j < c → G k j = if k = j then 1 else 0 := fun k j hk hj => by
    rw [← hG]; unfold swp
    split
    · rename_i e; subst e; rw [R.unit f j hf hj, if_neg (by omega), if_neg (by omega)]
    · split
      · rename_i e; subst e; rw [R.unit c j hcm hj, if_neg (by omega), if_neg (by omega)]
      · exact R.unit k j hk hj
  have es : ∀ (y : Nat → Rat) (k : Nat), sm (rg w) (fun j => (G k j - G k c * (G c j / G c c)) * y j) = sm (rg w) (fun j => G k j * y j) - G k c / G c c * sm (rg w) (fun j => G c j * y j) := fun y k => by
    rw [← sm_mul, ← sm_sub]; exact sm_congr fun j _ => by grind
  have ec : ∀ (y : Nat → Rat), sm (rg w) (fun j => G c j / G c c * y j) = 1 / G c c * sm (rg w) (fun j => G c j * y j) := fun y => by
    rw [← sm_mul]; exact sm_congr fun j _ => by grind
  refine { toSys := S.rows (fun y hy k hk => ?_) (fun y hy k hk => ?_), unit := fun k j hk hj => ?_ }
  · show sm (rg w) (fun j => (if k = c then G c j / G c c else G k j - G k c * (G c j / G c c)) * y j) = if k = c then G c w / G c c else G k w - G k c * (G c w / G c c)
    by_cases e : k = c
    · simp only [if_pos e]; rw [ec, hy c hcm]; grind
    · simp only [if_neg e]; rw [es, hy k hk, hy c hcm]; grind
  · have h1 := hy c hcm
    simp only [if_pos] at h1
    rw [ec] at h1
    have h2 : sm (rg w) (fun j => G c j * y j) = G c w := by grind
    by_cases e : k = c
    · subst e; exact h2
    · have h3 := hy k hk
      simp only [if_neg e] at h3
      rw [es, h2] at h3
      grind
  · show (if k = c then G c j / G c c else G k j - G k c * (G c j / G c c)) = if k = j then 1 else 0
    by_cases hjc : j = c
    · subst hjc
      by_cases e : k = j
      · rw [if_pos e, if_pos e]; grind
      · rw [if_neg e, if_neg e]; grind
    · have hj' : j < c := by omega
      have h0 : G c j = 0 := by rw [hunit c j hcm hj', if_neg (by omega)]
      by_cases e : k = c
      · rw [if_pos e, h0, if_neg (by omega)]; grind
      · rw [if_neg e, h0, hunit k j hk hj']; grind
theorem RInv.last (R : RInv m w w F x) (hw : w ≤ m) : ∀ k, k < w → F k w = x k := fun k hk => by
  rw [← R.sol k (by omega), sm_one (a := k) List.nodup_range (List.mem_range.mpr hk) fun j hj h => by
    rw [R.unit k j (by omega) (List.mem_range.mp hj), if_neg (Ne.symm h)]; grind]
  rw [R.unit k k (by omega) hk, if_pos rfl]; grind
/-- the sizes behind one column -/
theorem Siz.step {d n : Nat} (h : Siz m w F d n) (hdn : d ≤ n) (hc : c ≤ w) (hf : f < m) (hcf : c ≤ f) (hn : F f c ≠ 0) : Siz m w (stp F c f) (d + n) (2 * n + 1) := by
  obtain ⟨D, hD, hDs, hz⟩ := h
  have hcm : c < m := by omega
  have hzG : ∀ k j, k < m → j ≤ w → ∃ z : Int, swp F c f k j * ((D : Int) : Rat) = (z : Rat) ∧ z.natAbs < 2 ^ n := fun k j hk hj => by
    obtain ⟨i, hi, e⟩ := swp_lt (F := F) hcm hf hk
    rw [e]; exact hz i j hi hj
  have hp : swp F c f c c ≠ 0 := by unfold swp; rw [if_pos rfl]; exact hn
  have hstp : stp F c f = fun i j => if i = c then swp F c f c j / swp F c f c c else swp F c f i j - swp F c f i c * (swp F c f c j / swp F c f c c) := by
    funext i j; rfl
  rw [hstp]
  generalize swp F c f = G at *
  obtain ⟨p, ep, hps⟩ := hzG c c hcm hc
  have hD0 : ((D : Int) : Rat) ≠ 0 := by
    have : (0 : Rat) < ((D : Int) : Rat) := Rat.intCast_pos.mpr (by omega)
    grind
  have hp0 : p ≠ 0 := fun e => by
    rw [e] at ep
    have : G c c * ((D : Int) : Rat) = 0 := by rw [ep]; rfl
    rcases Rat.mul_eq_zero.mp this with q | q
    · exact hp q
    · exact hD0 q
  have hpr : (p : Rat) ≠ 0 := fun e => by
    have : (p : Rat) = ((0 : Int) : Rat) := by rw [e]; rfl
    exact hp0 (Rat.intCast_inj.mp this)
  -- the sign of p is taken out
  have hsg : ∃ s : Int, (s = 1 ∨ s = -1) ∧ ((p.natAbs : Nat) : Int) = s * p := by
    by_cases q : p < 0
    · exact ⟨-1, .inr rfl, by omega⟩
    · exact ⟨1, .inl rfl, by omega⟩
  obtain ⟨s, hs1, hs⟩ := hsg
  have hsa : s.natAbs = 1 := by rcases hs1 with e | e <;> rw [e] <;> rfl
  refine ⟨D * p.natAbs, Nat.mul_pos hD (Int.natAbs_pos.mpr hp0), lt_mul hDs hps, fun k j hk hj => ?_⟩
  have eD : (((D * p.natAbs : Nat) : Int) : Rat) = ((D : Int) : Rat) * ((s : Rat) * (p : Rat)) := by
    rw [Int.natCast_mul, hs, Rat.intCast_mul, Rat.intCast_mul]
  rw [eD]
  obtain ⟨z1, e1, h1⟩ := hzG k j hk hj
  obtain ⟨z2, e2, h2⟩ := hzG c j hcm hj
  obtain ⟨z3, e3, h3⟩ := hzG k c hk hc
  by_cases e : k = c
  · refine ⟨z2 * (D : Int) * s, ?_, ?_⟩
    · simp only [if_pos e]
      rw [Rat.intCast_mul, Rat.intCast_mul]
      have : G c j = (z2 : Rat) / ((D : Int) : Rat) := by grind
      have hq : G c c = (p : Rat) / ((D : Int) : Rat) := by grind
      rw [this, hq]
      grind
    · rw [Int.natAbs_mul, hsa, Nat.mul_one, Int.natAbs_mul, Int.natAbs_natCast]
      exact lt_pw (lt_mul h2 hDs) (by omega)
  · refine ⟨(z1 * p - z3 * z2) * s, ?_, ?_⟩
    · simp only [if_neg e]
      rw [Rat.intCast_mul, Rat.intCast_sub, Rat.intCast_mul, Rat.intCast_mul]
      have q1 : G k j = (z1 : Rat) / ((D : Int) : Rat) := by grind
      have q2 : G c j = (z2 : Rat) / ((D : Int) : Rat) := by grind
      have q3 : G k c = (z3 : Rat) / ((D : Int) : Rat) := by grind
      have hq : G c c = (p : Rat) / ((D : Int) : Rat) := by grind
      rw [q1, q2, q3, hq]
      grind
    · rw [Int.natAbs_mul, hsa, Nat.mul_one]
      have a1 : (z1 * p).natAbs < 2 ^ (2 * n) := by rw [Int.natAbs_mul, show 2 * n = n + n by omega]; exact lt_mul h1 hps
      have a2 : (z3 * z2).natAbs < 2 ^ (2 * n) := by rw [Int.natAbs_mul, show 2 * n = n + n by omega]; exact lt_mul h3 h2
      have := lt_add a1 a2
      omega
theorem Siz.bd {d n : Nat} (h : Siz m w F d n) (hdn : d ≤ n) {k j : Nat} (hk : k < m) (hj : j ≤ w) : Bd n (F k j) := by
  obtain ⟨D, hD, hDs, hz⟩ := h
  obtain ⟨z, e, hs⟩ := hz k j hk hj
  have hd := den_dvd hD e
  refine ⟨?_, lt_pw (Nat.lt_of_le_of_lt (Nat.le_of_dvd hD hd) hDs) hdn⟩
  -- z is the numerator times what D has more than the denominator
  obtain ⟨cc, rfl⟩ := hd
  have h1 := num_eq (F k j)
  have h2 : (z : Rat) = (((F k j).num * (cc : Int) : Int) : Rat) := by
    rw [← e, Rat.intCast_mul, h1, Int.natCast_mul, Rat.intCast_mul]; grind
  have h3 := Rat.intCast_inj.mp h2
  have hc1 : 1 ≤ cc := by
    rcases Nat.eq_zero_or_pos cc with q | q
    · rw [q] at hD; simp at hD
    · exact q
  have h4 : z.natAbs = (F k j).num.natAbs * cc := by rw [h3, Int.natAbs_mul, Int.natAbs_natCast]
  have h5 : (F k j).num.natAbs * 1 ≤ (F k j).num.natAbs * cc := Nat.mul_le_mul_left _ hc1
  omega
end
end Ck
end

section
set_option Elab.async false
set_option linter.all false
/-! periods. -/
namespace Ck
/-- what is closed under differences -/
structure Sub0 (G : Int → Prop) : Prop where
  zero : G 0
  sub : ∀ x y, G x → G y → G (x - y)
theorem Sub0.neg {G : Int → Prop} (g : Sub0 G) {x : Int} (h : G x) : G (-x) := by
  have := g.sub 0 x g.zero h; rwa [Int.zero_sub] at this
theorem Sub0.add {G : Int → Prop} (g : Sub0 G) {x y : Int} (h : G x) (k : G y) : G (x + y) := by
  have := g.sub x (-y) h (g.neg k); rwa [Int.sub_neg] at this
theorem Sub0.nmul {G : Int → Prop} (g : Sub0 G) {x : Int} (h : G x) : ∀ k : Nat, G ((k : Int) * x)
  | 0 => by rw [Int.natCast_zero, Int.zero_mul]; exact g.zero
  | k + 1 => by
    have := g.add (g.nmul h k) h
    rw [Int.natCast_add, Int.add_mul, Int.natCast_one, Int.one_mul]; exact this
theorem Sub0.abs {G : Int → Prop} (g : Sub0 G) {x : Int} (h : G x) : G (x.natAbs : Int) := by
  rcases Int.natAbs_eq x with e | e
  · rw [← e]; exact h
  · have := g.neg h
    rw [show (x.natAbs : Int) = -x by omega]; exact this
theorem Sub0.gcd {G : Int → Prop} (g : Sub0 G) (a b : Nat) : G a → G b → G (Nat.gcd a b : Nat) := by
  induction a, b using Nat.gcd.induction with
  | H0 n => intro _ h; rw [Nat.gcd_zero_left]; exact h
  | H1 m n hm ih =>
    intro h1 h2
    rw [Nat.gcd_rec]
    refine ih ?_ h1
    have h3 := g.sub _ _ h2 (g.nmul h1 (n / m))
    have e : (n : Int) - ((n / m : Nat) : Int) * (m : Int) = ((n % m : Nat) : Int) := by
      have := Nat.div_add_mod n m
      have h4 : ((n / m : Nat) : Int) * (m : Int) = ((m * (n / m) : Nat) : Int) := by rw [Int.natCast_mul, Int.mul_comm]
      rw [h4]; omega
    rw [e] at h3; exact h3
/-- the gcd of the differences along edges -/
structure DG (f : Nat → Nat) (es : List (Nat × Nat)) (d : Nat) : Prop where
  dvd : ∀ e ∈ es, (d : Int) ∣ (f e.1 : Int) + 1 - f e.2
  gen : ∀ G : Int → Prop, Sub0 G → (∀ e ∈ es, G ((f e.1 : Int) + 1 - f e.2)) → G d
theorem DG.nil {f : Nat → Nat} : DG f [] 0 := ⟨fun e h => (List.not_mem_nil h).elim, fun G g _ => g.zero⟩
theorem DG.congr {f f' : Nat → Nat} {es : List (Nat × Nat)} {d : Nat} (h : DG f es d) (e : ∀ x ∈ es, f x.1 = f' x.1 ∧ f x.2 = f' x.2) : DG f' es d :=
  ⟨fun x hx => by rw [← (e x hx).1, ← (e x hx).2]; exact h.dvd x hx, fun G g q => h.gen G g fun x hx => by rw [(e x hx).1, (e x hx).2]; exact q x hx⟩
theorem DG.step {f : Nat → Nat} {es : List (Nat × Nat)} {d : Nat} (h : DG f es d) (j i : Nat) : DG f (es ++ [(j, i)]) (Nat.gcd d (((f j : Int) + 1 - f i).natAbs)) := by
  refine ⟨fun x hx => ?_, fun G g q => ?_⟩
  · rcases List.mem_append.mp hx with hx | hx
    · exact Int.dvd_trans (Int.natCast_dvd_natCast.mpr (Nat.gcd_dvd_left _ _)) (h.dvd x hx)
    · simp at hx
      subst hx
      exact Int.ofNat_dvd_left.mpr (Nat.gcd_dvd_right _ _)
  · exact g.gcd _ _ (h.gen G g fun x hx => q x (List.mem_append_left _ hx)) (g.abs (q (j, i) (List.mem_append_right _ (by simp))))
structure Per (n : Nat) (A : Mx) (r : List Nat) (d : Nat) : Prop where
  dvd : ∀ i ∈ r, ∀ m, Wk n A m i i → d ∣ m
  gen : ∀ G : Int → Prop, Sub0 G → ∀ i ∈ r, (∀ m : Nat, Wk n A m i i → G (m : Int)) → G d
section
variable {n : Nat} {A : Mx} {r : List Nat} {d d' : Nat}
theorem wk_shift {f : Nat → Nat} (h : ∀ j i, j ∈ r → i ∈ r → 0 < A i j → (d : Int) ∣ (f j : Int) + 1 - f i) (R : IsRing n A r) {m j i : Nat} (hw : Wk n A m j i) : j ∈ r → (d : Int) ∣ (f j : Int) + m - f i := by
  induction hw with
  | nil _ => intro _; exact ⟨0, by omega⟩
  | @cons m j k i hj hp hr ih =>
    intro hjr
    have hk := R.closed hjr hr.lt1 hp
    have h1 := h j k hjr hk hp
    have h2 := ih hk
    have e : (f j : Int) + ((m + 1 : Nat) : Int) - f i = ((f j : Int) + 1 - f k) + ((f k : Int) + m - f i) := by omega
    rw [e]; exact Int.dvd_add h1 h2
theorem Per.of (R : IsRing n A r) {c : Nat} (hc : c ∈ r) {f : Nat → Nat} {es : List (Nat × Nat)} (D : DG f es d) (hf : ∀ i ∈ r, Wk n A (f i) c i)
    (h1 : ∀ e ∈ es, e.1 ∈ r ∧ e.2 ∈ r ∧ 0 < A e.2 e.1) (h2 : ∀ j i, j ∈ r → i ∈ r → 0 < A i j → (j, i) ∈ es) : Per n A r d := by
  refine ⟨fun i hi m hw => ?_, fun G g i hi q => ?_⟩
  · have h := wk_shift (d := d) (f := f) (fun j i hj hi hp => D.dvd _ (h2 j i hj hi hp)) R hw hi
    have e : (f i : Int) + m - f i = m := by omega
    rw [e] at h
    exact Int.natCast_dvd_natCast.mp h
  · -- closed walks at i, at any cask of the ring
    have hall : ∀ k ∈ r, ∀ m : Nat, Wk n A m k k → G (m : Int) := fun k hk m hw => by
      obtain ⟨a, ha⟩ := R.conn hi hk
      obtain ⟨b, hb⟩ := R.conn hk hi
      have g1 := q _ (ha.app hb)
      have g2 := q _ ((ha.app hw).app hb)
      have := g.sub _ _ g2 g1
      rw [show (((a + m + b : Nat) : Int) - ((a + b : Nat) : Int)) = (m : Int) by omega] at this
      exact this
    refine D.gen G g fun e he => ?_
    obtain ⟨e1, e2, hp⟩ := h1 e he
    obtain ⟨b, hb⟩ := R.conn e2 hc
    have g1 := hall c hc _ (((hf _ e1).app (Wk.one (R.lt _ e1) (R.lt _ e2) hp)).app hb)
    have g2 := hall c hc _ ((hf _ e2).app hb)
    have := g.sub _ _ g1 g2
    rw [show (((f e.1 + 1 + b : Nat) : Int) - ((f e.2 + b : Nat) : Int)) = (f e.1 : Int) + 1 - f e.2 by omega] at this
    exact this
theorem Per.uniq (R : IsRing n A r) (h : Per n A r d) (h' : Per n A r d') : d = d' := by
  obtain ⟨c, hc⟩ := List.exists_mem_of_ne_nil r R.ne
  have sub : ∀ e : Nat, Sub0 fun z => (e : Int) ∣ z := fun e => ⟨Int.dvd_zero _, fun x y a b => Int.dvd_sub a b⟩
  have a := h.gen _ (sub d') c hc fun m hw => Int.natCast_dvd_natCast.mpr (h'.dvd c hc m hw)
  have b := h'.gen _ (sub d) c hc fun m hw => Int.natCast_dvd_natCast.mpr (h.dvd c hc m hw)
  exact Nat.dvd_antisymm (Int.natCast_dvd_natCast.mp b) (Int.natCast_dvd_natCast.mp a)
theorem len_sub : ∀ {r l : List Nat}, l.Nodup → (∀ i ∈ l, i ∈ r) → l.length ≤ r.length := by
  intro r
  induction r with
  | nil =>
    intro l _ h
    cases l with
    | nil => exact Nat.le_refl _
    | cons a l => exact absurd (h a List.mem_cons_self) (by simp)
  | cons b r ih =>
    intro l nd h
    have h1 : (l.erase b).length ≤ r.length := ih (nd.erase b) fun i hi => by
      have h2 := h i (List.mem_of_mem_erase hi)
      rcases List.mem_cons.mp h2 with e | e
      · subst e; exact absurd hi (List.Nodup.not_mem_erase nd)
      · exact e
    rw [List.length_erase] at h1
    rw [List.length_cons]
    split at h1 <;> omega
theorem IsRing.next (R : IsRing n A r) (t : Tab n A) {j : Nat} (hj : j ∈ r) : ∃ i, i ∈ r ∧ 0 < A i j := by
  have h := R.col t hj
  have h1 : 0 < sm r fun i => A i j := by rw [h]; decide
  obtain ⟨i, hi, hp⟩ := (sm_pos_iff fun i hi => t.nn i j (R.lt i hi) (R.lt j hj)).mp h1
  exact ⟨i, hi, hp⟩
theorem IsRing.cycle (R : IsRing n A r) (t : Tab n A) : ∃ i ∈ r, ∃ m, 0 < m ∧ m ≤ r.length ∧ Wk n A m i i := by
  classical
  obtain ⟨c, hc⟩ := List.exists_mem_of_ne_nil r R.ne
  let nx : Nat → Nat := fun j => if h : j ∈ r then (R.next t h).choose else c
  have hnx : ∀ j, j ∈ r → nx j ∈ r ∧ 0 < A (nx j) j := fun j h => by
    show (if h : j ∈ r then (R.next t h).choose else c) ∈ r ∧ 0 < A (if h : j ∈ r then (R.next t h).choose else c) j
    rw [dif_pos h]; exact (R.next t h).choose_spec
  let s : Nat → Nat := fun k => Nat.rec c (fun _ x => nx x) k
  have hs : ∀ k, s k ∈ r := fun k => by
    induction k with
    | zero => exact hc
    | succ k ih => exact (hnx _ ih).1
  have hw : ∀ m k, Wk n A m (s k) (s (k + m)) := fun m => by
    induction m with
    | zero => intro k; exact .nil (R.lt _ (hs k))
    | succ m ih =>
      intro k
      have := ih (k + 1)
      rw [show k + 1 + m = k + (m + 1) by omega] at this
      exact .cons (R.lt _ (hs k)) (hnx _ (hs k)).2 this
  by_cases hinj : ∃ a b, a < b ∧ b ≤ r.length ∧ s a = s b
  · obtain ⟨a, b, h1, h2, h3⟩ := hinj
    have h4 := hw (b - a) a
    rw [show a + (b - a) = b by omega, ← h3] at h4
    exact ⟨s a, hs a, b - a, by omega, by omega, h4⟩
  · have nd : ((List.range (r.length + 1)).map s).Nodup := by
      refine nodup_map_on (fun a ha b hb e => ?_) List.nodup_range
      have ha := List.mem_range.mp ha
      have hb := List.mem_range.mp hb
      rcases Nat.lt_trichotomy a b with h | h | h
      · exact absurd ⟨a, b, h, by omega, e⟩ hinj
      · exact h
      · exact absurd ⟨b, a, h, by omega, e.symm⟩ hinj
    have := len_sub (r := r) nd fun i hi => by
      obtain ⟨k, _, rfl⟩ := List.mem_map.mp hi
      exact hs k
    rw [List.length_map, List.length_range] at this
    omega
theorem Per.pos (R : IsRing n A r) (t : Tab n A) (h : Per n A r d) : 1 ≤ d ∧ d ≤ r.length := by
  obtain ⟨i, hi, m, h0, hl, hw⟩ := R.cycle t
  have hd := h.dvd i hi m hw
  have h1 := Nat.le_of_dvd h0 hd
  have h2 := Nat.pos_of_dvd_of_pos hd h0
  omega
end
/-- the period of a table -/
def PerT (n : Nat) (A : Mx) (p : Nat) : Prop := ∃ g : List Nat → Nat, (∀ r ∈ rgs n A, Per n A r (g r)) ∧ p = (rgs n A).foldl (fun a r => Nat.lcm a (g r)) 1
theorem foldl_lcm_congr {g h : List Nat → Nat} : ∀ (l : List (List Nat)) (a : Nat), (∀ r ∈ l, g r = h r) → l.foldl (fun a r => Nat.lcm a (g r)) a = l.foldl (fun a r => Nat.lcm a (h r)) a
  | [], _, _ => rfl
  | r :: l, a, e => by
    show l.foldl _ (Nat.lcm a (g r)) = l.foldl _ (Nat.lcm a (h r))
    rw [e r List.mem_cons_self]
    exact foldl_lcm_congr l _ fun r hr => e r (List.mem_cons_of_mem _ hr)
theorem PerT.uniq {n : Nat} {A : Mx} {p q : Nat} (h : PerT n A p) (h' : PerT n A q) : p = q := by
  obtain ⟨g, hg, rfl⟩ := h
  obtain ⟨g', hg', rfl⟩ := h'
  exact foldl_lcm_congr _ _ fun r hr => (hg r hr).uniq (isRing hr) (hg' r hr)
theorem foldl_lcm_dvd {g : List Nat → Nat} : ∀ (l : List (List Nat)) (a : Nat), a ∣ l.foldl (fun a r => Nat.lcm a (g r)) a ∧ ∀ r ∈ l, g r ∣ l.foldl (fun a r => Nat.lcm a (g r)) a
  | [], a => ⟨Nat.dvd_refl _, fun r h => (List.not_mem_nil h).elim⟩
  | r :: l, a => by
    obtain ⟨h1, h2⟩ := foldl_lcm_dvd (g := g) l (Nat.lcm a (g r))
    refine ⟨Nat.dvd_trans (Nat.dvd_lcm_left _ _) h1, fun s hs => ?_⟩
    rcases List.mem_cons.mp hs with e | e
    · subst e; exact Nat.dvd_trans (Nat.dvd_lcm_right _ _) h1
    · exact h2 s e
/-- the greatest product of parts of s -/
def lnd : Nat → Nat
  | 0 => 1
  | 1 => 1
  | 2 => 2
  | 3 => 3
  | 4 => 4
  | _ => 6
theorem lnd_mul : ∀ a s, 1 ≤ a → a + s ≤ 5 → a * lnd s ≤ lnd (a + s) := by
  intro a s h1 h2
  have ha : a = 1 ∨ a = 2 ∨ a = 3 ∨ a = 4 ∨ a = 5 := by omega
  have hs : s = 0 ∨ s = 1 ∨ s = 2 ∨ s = 3 ∨ s = 4 := by omega
  rcases ha with rfl | rfl | rfl | rfl | rfl <;> rcases hs with rfl | rfl | rfl | rfl | rfl <;> first | decide | omega
theorem foldl_lcm_le {g : List Nat → Nat} : ∀ (l : List (List Nat)) (a : Nat), (∀ r ∈ l, 1 ≤ g r ∧ g r ≤ r.length) → l.flatten.length ≤ 5 → 0 < a → l.foldl (fun a r => Nat.lcm a (g r)) a ≤ a * lnd l.flatten.length
  | [], a, _, _, _ => by show a ≤ a * 1; omega
  | r :: l, a, h, hl, ha => by
    rw [List.flatten_cons, List.length_append] at hl
    obtain ⟨h1, h2⟩ := h r List.mem_cons_self
    have hp : 0 < Nat.lcm a (g r) := Nat.lcm_pos ha h1
    have ih := foldl_lcm_le (g := g) l (Nat.lcm a (g r)) (fun s hs => h s (List.mem_cons_of_mem _ hs)) (by omega) hp
    show l.foldl _ (Nat.lcm a (g r)) ≤ _
    refine Nat.le_trans ih ?_
    have h3 : Nat.lcm a (g r) ≤ a * g r := by unfold Nat.lcm; exact Nat.div_le_self _ _
    have h4 := lnd_mul r.length l.flatten.length (by omega) hl
    rw [List.flatten_cons, List.length_append]
    refine Nat.le_trans (Nat.mul_le_mul_right _ h3) ?_
    rw [Nat.mul_assoc]
    refine Nat.mul_le_mul_left _ (Nat.le_trans (Nat.mul_le_mul_right _ h2) h4)
theorem flatten_nodup {n : Nat} {A : Mx} : ∀ {l : List (List Nat)}, l.Nodup → (∀ r ∈ l, r ∈ rgs n A) → l.flatten.Nodup
  | [], _, _ => List.nodup_nil
  | r :: l, nd, h => by
    obtain ⟨h1, h2⟩ := List.nodup_cons.mp nd
    rw [List.flatten_cons]
    refine List.nodup_append.mpr ⟨(isRing (h r List.mem_cons_self)).nd, flatten_nodup h2 fun s hs => h s (List.mem_cons_of_mem _ hs), fun a ha b hb e => ?_⟩
    subst e
    obtain ⟨s, hs, has⟩ := List.mem_flatten.mp hb
    have := ring_same (h r List.mem_cons_self) (h s (List.mem_cons_of_mem _ hs)) ha has
    subst this
    exact h1 hs
theorem rgs_flat {n : Nat} {A : Mx} : (rgs n A).flatten.Nodup ∧ (rgs n A).flatten.length ≤ n := by
  have nd := flatten_nodup (n := n) (A := A) rgs_nodup fun r h => h
  refine ⟨nd, ?_⟩
  have := len_sub (r := List.range n) nd fun i hi => by
    obtain ⟨r, hr, h⟩ := List.mem_flatten.mp hi
    exact List.mem_range.mpr ((isRing hr).lt i h)
  rw [List.length_range] at this; exact this
theorem PerT.bds {n : Nat} {A : Mx} {p : Nat} (t : Tab n A) (h5 : n ≤ 5) (h : PerT n A p) : 1 ≤ p ∧ p ≤ 6 ∧ ∃ g : List Nat → Nat, ∀ r ∈ rgs n A, Per n A r (g r) ∧ g r ∣ p := by
  obtain ⟨g, hg, rfl⟩ := h
  have hpos : ∀ r ∈ rgs n A, 1 ≤ g r ∧ g r ≤ r.length := fun r hr => (hg r hr).pos (isRing hr) t
  have hle := foldl_lcm_le (g := g) (rgs n A) 1 hpos (Nat.le_trans rgs_flat.2 h5) (by decide)
  have hl : lnd (rgs n A).flatten.length ≤ 6 := by
    have : (rgs n A).flatten.length ≤ 5 := Nat.le_trans rgs_flat.2 h5
    generalize (rgs n A).flatten.length = s at this
    have hs : s = 0 ∨ s = 1 ∨ s = 2 ∨ s = 3 ∨ s = 4 ∨ s = 5 := by omega
    rcases hs with rfl | rfl | rfl | rfl | rfl | rfl <;> decide
  have hdv := foldl_lcm_dvd (g := g) (rgs n A) 1
  have hp : ∀ (l : List (List Nat)) (a : Nat), (∀ r ∈ l, 1 ≤ g r) → 0 < a → 0 < l.foldl (fun a r => Nat.lcm a (g r)) a := by
    intro l
    induction l with
    | nil => intro a _ h; exact h
    | cons r l ih => intro a h ha; exact ih _ (fun s hs => h s (List.mem_cons_of_mem _ hs)) (Nat.lcm_pos ha (h r List.mem_cons_self))
  refine ⟨hp _ _ (fun r hr => (hpos r hr).1) (by decide), by omega, g, fun r hr => ⟨hg r hr, hdv.2 r hr⟩⟩
end Ck
end

section
set_option Elab.async false
set_option linter.all false
set_option maxHeartbeats 1000000
/-! ends: what stands in the rings, what comes into them. -/
namespace Ck
open Classical
theorem getD_range {l : List Nat} : (rg l.length).map (fun j => l.getD j 0) = l := by
  refine List.ext_getElem? fun i => ?_
  by_cases h : i < l.length
  · rw [List.getElem?_map, List.getElem?_range h, List.getElem?_eq_getElem h]
    show some (l.getD i 0) = _
    rw [List.getD_eq_getElem?_getD, List.getElem?_eq_getElem h]; rfl
  · rw [List.getElem?_eq_none (by rw [List.length_map, List.length_range]; omega), List.getElem?_eq_none (by omega)]
theorem sm_idx {l : List Nat} {f : Nat → Rat} : sm (rg l.length) (fun j => f (l.getD j 0)) = sm l f := by
  rw [← sm_map (h := fun j => l.getD j 0), getD_range]
theorem getD_in {l : List Nat} {i : Nat} (h : i < l.length) : l.getD i 0 ∈ l := by
  rw [List.getD_eq_getElem?_getD, List.getElem?_eq_getElem h]; exact List.getElem_mem h
theorem getD_inj {l : List Nat} (nd : l.Nodup) {i j : Nat} (hi : i < l.length) (hj : j < l.length) (e : l.getD i 0 = l.getD j 0) : i = j := by
  have h1 := nd.idxOf_getElem i hi
  have h2 := nd.idxOf_getElem j hj
  rw [List.getD_eq_getElem?_getD, List.getElem?_eq_getElem hi, List.getD_eq_getElem?_getD, List.getElem?_eq_getElem hj] at e
  have e' : l[i] = l[j] := e
  rw [← h1, e', h2]
theorem idx_getD {l : List Nat} (nd : l.Nodup) {i : Nat} (hi : i < l.length) : l.idxOf (l.getD i 0) = i := by
  rw [List.getD_eq_getElem?_getD, List.getElem?_eq_getElem hi]; exact nd.idxOf_getElem i hi
theorem getD_idx {l : List Nat} {c : Nat} (hc : c ∈ l) : l.idxOf c < l.length ∧ l.getD (l.idxOf c) 0 = c := by
  have h := List.idxOf_lt_length_of_mem hc
  refine ⟨h, ?_⟩
  rw [List.getD_eq_getElem?_getD, List.getElem?_eq_getElem h]; exact List.getElem_idxOf h
theorem sm_del {l : List Nat} (nd : l.Nodup) {i : Nat} (hi : i ∈ l) {f : Nat → Rat} : sm l (fun c => (if i = c then 1 else 0) * f c) = f i := by
  rw [sm_one (a := i) nd hi fun x _ h => by rw [if_neg (Ne.symm h)]; grind]
  rw [if_pos rfl]; grind
structure Std (P : Mx) (r : List Nat) (p : Nat → Rat) : Prop where
  st : ∀ i ∈ r, sm r (fun j => P i j * p j) = p i
  one : sm r p = 1
  nn : ∀ i ∈ r, 0 ≤ p i
noncomputable def pi0 (P : Mx) (r : List Nat) : Nat → Rat := if h : ∃ p, Std P r p then h.choose else fun _ => 0
section
variable {n : Nat} {P : Mx} {r s : List Nat}
theorem pi_spec (R : IsRing n P r) (t : Tab n P) : Std P r (pi0 P r) := by
  have h : ∃ p, Std P r p := by
    obtain ⟨p, h1, h2, h3⟩ := still_exists R t
    exact ⟨p, h1, h2, h3⟩
  unfold pi0
  rw [dif_pos h]; exact h.choose_spec
def Cin (n : Nat) (P : Mx) (r : List Nat) (h : Nat → Rat) : Prop := ∀ c ∈ loose n P, sm (loose n P) (fun o => P o c * h o) + sm r (fun i => P i c) = h c
noncomputable def hh (n : Nat) (P : Mx) (r : List Nat) : Nat → Rat := if h : ∃ p, Cin n P r p then h.choose else fun _ => 0
theorem loose_lt {c : Nat} (h : c ∈ loose n P) : c < n := (mem_loose.mp h).1
/-- what is nothing -/
theorem loose_zero (t : Tab n P) {v : Nat → Rat} (h : ∀ c ∈ loose n P, sm (loose n P) (fun o => P o c * v o) = v c) : ∀ c ∈ loose n P, v c = 0 := fun c hc => by
  have h1 := max_loose t (w := v) (fun j hj => by rw [h j hj]; exact Rat.le_refl) c hc
  have h2 := max_loose t (w := fun c => - v c) (fun j hj => by
    have e : sm (loose n P) (fun i => P i j * - v i) = - sm (loose n P) (fun i => P i j * v i) := by
      rw [show (- sm (loose n P) fun i => P i j * v i) = (-1) * sm (loose n P) fun i => P i j * v i by grind, ← sm_mul]
      exact sm_congr fun x _ => by grind
    rw [e, h j hj]; exact Rat.le_refl) c hc
  grind
theorem hh_spec (t : Tab n P) : Cin n P r (hh n P r) := by
  have h : ∃ p, Cin n P r p := by
    obtain ⟨x, hx⟩ := sqr ((loose n P).map fun c => ((fun o => (if c = o then 1 else 0) - P o c), sm r fun i => P i c)) (loose n P) n (fun h => Nat.lt_irrefl n (loose_lt h)) loose_nodup (by rw [List.length_map]) (fun x hx => by
      refine loose_zero t fun c hc => ?_
      have h := hx _ (List.mem_map.mpr ⟨c, hc, rfl⟩)
      have e : sm (loose n P) (fun u => ((if c = u then 1 else 0) - P u c) * x u) = x c - sm (loose n P) (fun o => P o c * x o) := by
        rw [← sm_del loose_nodup hc (f := x), ← sm_sub]
        exact sm_congr fun u _ => by grind
      have h' : sm (loose n P) (fun u => ((if c = u then 1 else 0) - P u c) * x u) = 0 := h
      rw [e] at h'
      grind)
    refine ⟨x, fun c hc => ?_⟩
    have h := hx _ (List.mem_map.mpr ⟨c, hc, rfl⟩)
    have e : sm (loose n P) (fun u => ((if c = u then 1 else 0) - P u c) * x u) = x c - sm (loose n P) (fun o => P o c * x o) := by
      rw [← sm_del loose_nodup hc (f := x), ← sm_sub]
      exact sm_congr fun u _ => by grind
    have h' : sm (loose n P) (fun u => ((if c = u then 1 else 0) - P u c) * x u) = sm r fun i => P i c := h
    rw [e] at h'
    grind
  unfold hh
  rw [dif_pos h]; exact h.choose_spec
theorem hh_nn (t : Tab n P) (R : IsRing n P r) {c : Nat} (hc : c ∈ loose n P) : 0 ≤ hh n P r c := by
  have S := hh_spec (r := r) t
  have h := max_loose t (w := fun c => - hh n P r c) (fun j hj => by
    have e : sm (loose n P) (fun i => P i j * - hh n P r i) = - sm (loose n P) (fun i => P i j * hh n P r i) := by
      rw [show (- sm (loose n P) fun i => P i j * hh n P r i) = (-1) * sm (loose n P) fun i => P i j * hh n P r i by grind, ← sm_mul]
      exact sm_congr fun x _ => by grind
    have h1 := S j hj
    have h2 : 0 ≤ sm r (fun i => P i j) := sm_nonneg fun i hi => t.nn i j (R.lt i hi) (loose_lt hj)
    rw [e]; grind) c hc
  grind
/-- the share that stands, the part that comes in -/
noncomputable def pve (P : Mx) (r : List Nat) (i : Nat) : Rat := if i ∈ r then pi0 P r i else 0
noncomputable def wve (n : Nat) (P : Mx) (r : List Nat) (c : Nat) : Rat := if c ∈ r then 1 else if c ∈ loose n P then hh n P r c else 0
noncomputable def En0 (n : Nat) (P : Mx) : Mx := fun i c => sm (rgs n P) fun r => pve P r i * wve n P r c
theorem ring_sub (R : IsRing n P r) : ∀ x ∈ r, x ∈ rg n := fun x hx => List.mem_range.mpr (R.lt x hx)
theorem pve_sum (R : IsRing n P r) {f : Nat → Rat} : sm (rg n) (fun k => f k * pve P r k) = sm r fun k => f k * pi0 P r k := by
  rw [sm_part List.nodup_range R.nd (ring_sub R) fun x _ h => by unfold pve; rw [if_neg h]; grind]
  exact sm_congr fun k hk => by unfold pve; rw [if_pos hk]
theorem pve_still (R : IsRing n P r) (t : Tab n P) {i : Nat} (hi : i < n) : sm (rg n) (fun k => P i k * pve P r k) = pve P r i := by
  rw [pve_sum R]
  by_cases h : i ∈ r
  · rw [(pi_spec R t).st i h]; unfold pve; rw [if_pos h]
  · rw [sm_zero fun k hk => by rw [R.zero t hk hi h]; grind]
    unfold pve; rw [if_neg h]
theorem pve_one (R : IsRing n P r) (t : Tab n P) : sm (rg n) (pve P r) = 1 := by
  have h := pve_sum R (f := fun _ => 1)
  have e1 : sm (rg n) (fun k => 1 * pve P r k) = sm (rg n) (pve P r) := sm_congr fun x _ => by grind
  have e2 : sm r (fun k => 1 * pi0 P r k) = sm r (pi0 P r) := sm_congr fun x _ => by grind
  rw [← e1, h, e2]; exact (pi_spec R t).one
theorem pve_nn (R : IsRing n P r) (t : Tab n P) (i : Nat) : 0 ≤ pve P r i := by
  unfold pve; split
  · rename_i h; exact (pi_spec R t).nn i h
  · exact Rat.le_refl
theorem wve_nn (R : IsRing n P r) (t : Tab n P) (c : Nat) : 0 ≤ wve n P r c := by
  unfold wve; split
  · decide
  · split
    · rename_i h; exact hh_nn t R h
    · exact Rat.le_refl
theorem wve_pv (hr : r ∈ rgs n P) (hs : s ∈ rgs n P) (t : Tab n P) : sm (rg n) (fun k => wve n P r k * pve P s k) = if s = r then 1 else 0 := by
  have R := isRing hr
  have S := isRing hs
  rw [pve_sum S]
  by_cases e : s = r
  · subst e
    rw [if_pos rfl, ← (pi_spec S t).one]
    exact sm_congr fun k hk => by unfold wve; rw [if_pos hk]; grind
  · rw [if_neg e]
    refine sm_zero fun k hk => ?_
    have h1 : k ∉ r := fun h => e (ring_same hs hr hk h)
    have h2 : k ∉ loose n P := fun h => (mem_loose.mp h).2 s hs hk
    unfold wve
    rw [if_neg h1, if_neg h2]; grind
theorem wve_in {c : Nat} (hc : c < n) (hr : r ∈ rgs n P) (h : c ∈ r) : sm (rgs n P) (fun s => wve n P s c) = 1 := by
  rw [sm_one (a := r) rgs_nodup hr fun s hs hne => ?_]
  · unfold wve; rw [if_pos h]
  · have h1 : c ∉ s := fun q => hne (ring_same hs hr q h)
    have h2 : c ∉ loose n P := fun q => (mem_loose.mp q).2 r hr h
    unfold wve
    rw [if_neg h1, if_neg h2]
theorem sm_flat {f : Nat → Rat} : ∀ l : List (List Nat), sm l (fun r => sm r f) = sm l.flatten f
  | [] => rfl
  | r :: l => by rw [sm_cons, sm_flat l, List.flatten_cons, sm_append]
theorem wve_le (t : Tab n P) {c : Nat} (hc : c < n) : sm (rgs n P) (fun s => wve n P s c) ≤ 1 := by
  by_cases h : ∃ r ∈ rgs n P, c ∈ r
  · obtain ⟨r, hr, hcr⟩ := h
    rw [wve_in hc hr hcr]; exact Rat.le_refl
  · have hl : ∀ c, c ∈ loose n P → sm (rgs n P) (fun s => wve n P s c) = sm (rgs n P) fun s => hh n P s c := fun c hc => sm_congr fun s hs => by
      unfold wve
      rw [if_neg ((mem_loose.mp hc).2 s hs), if_pos hc]
    have hcl : c ∈ loose n P := mem_loose.mpr ⟨hc, fun r hr q => h ⟨r, hr, q⟩⟩
    rw [hl c hcl]
    have key := max_loose t (w := fun c => sm (rgs n P) (fun s => hh n P s c) - 1) (fun j hj => by
      have hj1 := t.le j (loose_lt hj)
      -- col = loose + rings
      have e0 : sm (loose n P) (fun i => P i j) + sm (rgs n P) (fun s => sm s fun i => P i j) ≤ 1 := by
        rw [sm_flat, ← sm_append]
        have nd : (loose n P ++ (rgs n P).flatten).Nodup := List.nodup_append.mpr ⟨loose_nodup, rgs_flat.1, fun a ha b hb e => by
          subst e
          obtain ⟨s, hs, has⟩ := List.mem_flatten.mp hb
          exact (mem_loose.mp ha).2 s hs has⟩
        suffices e : sm (loose n P ++ (rgs n P).flatten) (fun i => P i j) = sm (rg n) fun i => P i j by
          rw [e]; exact hj1
        refine (sm_part List.nodup_range nd (fun x hx => ?_) fun x hx h => ?_).symm
        · rcases List.mem_append.mp hx with h | h
          · exact List.mem_range.mpr (loose_lt h)
          · obtain ⟨s, hs, hxs⟩ := List.mem_flatten.mp h
            exact List.mem_range.mpr ((isRing hs).lt x hxs)
        · exfalso
          refine h (List.mem_append.mpr ?_)
          by_cases q : ∃ s ∈ rgs n P, x ∈ s
          · obtain ⟨s, hs, hxs⟩ := q
            exact .inr (List.mem_flatten.mpr ⟨s, hs, hxs⟩)
          · exact .inl (mem_loose.mpr ⟨List.mem_range.mp hx, fun r hr w => q ⟨r, hr, w⟩⟩)
      have e1 : sm (rgs n P) (fun s => hh n P s j) = sm (loose n P) (fun o => P o j * sm (rgs n P) (fun s => hh n P s o)) + sm (rgs n P) (fun s => sm s fun i => P i j) := by
        have a1 : sm (rgs n P) (fun s => hh n P s j) = sm (rgs n P) (fun s => sm (loose n P) (fun o => P o j * hh n P s o) + sm s fun i => P i j) := sm_congr fun s hs => (hh_spec (r := s) t j hj).symm
        rw [a1, sm_add, sm_swap]
        congr 1
        exact sm_congr fun o _ => by rw [sm_mul]
      have e2 : sm (loose n P) (fun i => P i j * (sm (rgs n P) (fun s => hh n P s i) - 1)) = sm (loose n P) (fun o => P o j * sm (rgs n P) (fun s => hh n P s o)) - sm (loose n P) (fun i => P i j) := by
        rw [← sm_sub]
        exact sm_congr fun o _ => by grind
      rw [e2, e1]
      grind) c hcl
    have key' : sm (rgs n P) (fun s => hh n P s c) - 1 ≤ 0 := key
    grind
/-! ### the end -/
theorem en_tab (t : Tab n P) : Tab n (En0 n P) := by
  refine ⟨fun i j hi hj => sm_nonneg fun r hr => Rat.mul_nonneg (pve_nn (isRing hr) t i) (wve_nn (isRing hr) t j), fun j hj => ?_⟩
  show sm (rg n) (fun i => sm (rgs n P) fun r => pve P r i * wve n P r j) ≤ 1
  rw [sm_swap]
  have e : sm (rgs n P) (fun r => sm (rg n) fun i => pve P r i * wve n P r j) = sm (rgs n P) fun r => wve n P r j := sm_congr fun r hr => by
    rw [sm_mulr]
    have h := pve_one (isRing hr) t
    rw [show sm (rg n) (fun i => pve P r i) = 1 from h]; grind
  rw [e]; exact wve_le t hj
theorem en_still (t : Tab n P) : Eqn n (mul n P (En0 n P)) (En0 n P) := fun i c hi hc => by
  show sm (rg n) (fun k => P i k * sm (rgs n P) fun r => pve P r k * wve n P r c) = sm (rgs n P) fun r => pve P r i * wve n P r c
  have e1 : sm (rg n) (fun k => P i k * sm (rgs n P) fun r => pve P r k * wve n P r c) = sm (rg n) (fun k => sm (rgs n P) fun r => P i k * pve P r k * wve n P r c) := sm_congr fun k _ => by
    rw [← sm_mul]; exact sm_congr fun r _ => by grind
  rw [e1, sm_swap]
  refine sm_congr fun r hr => ?_
  rw [sm_mulr, pve_still (isRing hr) t hi]
theorem en_idem (t : Tab n P) : Eqn n (mul n (En0 n P) (En0 n P)) (En0 n P) := fun i c hi hc => by
  show sm (rg n) (fun k => sm (rgs n P) (fun r => pve P r i * wve n P r k) * sm (rgs n P) fun s => pve P s k * wve n P s c) = sm (rgs n P) fun r => pve P r i * wve n P r c
  have e1 : sm (rg n) (fun k => sm (rgs n P) (fun r => pve P r i * wve n P r k) * sm (rgs n P) fun s => pve P s k * wve n P s c) = sm (rg n) (fun k => sm (rgs n P) fun r => pve P r i * sm (rgs n P) fun s => (wve n P r k * pve P s k) * wve n P s c) := sm_congr fun k _ => by
    rw [← sm_mulr]
    refine sm_congr fun r _ => ?_
    rw [Rat.mul_assoc, ← sm_mul]
    congr 1
    exact sm_congr fun s _ => by grind
  rw [e1, sm_swap]
  refine sm_congr fun r hr => ?_
  rw [sm_mul]
  congr 1
  rw [sm_swap]
  rw [sm_one (a := r) rgs_nodup hr fun s hs hne => ?_]
  · rw [sm_mulr, wve_pv hr hr t, if_pos rfl]; grind
  · rw [sm_mulr, wve_pv hr hs t, if_neg hne]; grind
/-- at a cask of a ring -/
theorem en_at {i c : Nat} (hr : r ∈ rgs n P) (hi : i ∈ r) : En0 n P i c = pi0 P r i * wve n P r c := by
  unfold En0
  rw [sm_one (a := r) rgs_nodup hr fun s hs hne => ?_]
  · unfold pve; rw [if_pos hi]
  · unfold pve; rw [if_neg fun q => hne (ring_same hs hr q hi)]; grind
theorem en_no {i c : Nat} (h : ∀ r ∈ rgs n P, i ∉ r) : En0 n P i c = 0 := sm_zero fun r hr => by
  unfold pve; rw [if_neg (h r hr)]; grind
/-! ### the systems -/
def stdA (P : Mx) (r : List Nat) : Mx := fun k j => if k < r.length then P (r.getD k 0) (r.getD j 0) - (if r.getD k 0 = r.getD j 0 then 1 else 0) else 1
def stdb (r : List Nat) (k : Nat) : Rat := if k < r.length then 0 else 1
def augM (A : Mx) (b : Nat → Rat) (w : Nat) : Mx := fun i j => if j < w then A i j else b i
theorem aug_sum {A : Mx} {b : Nat → Rat} {w k : Nat} {y : Nat → Rat} : sm (rg w) (fun j => augM A b w k j * y j) = sm (rg w) fun j => A k j * y j := sm_congr fun j hj => by unfold augM; rw [if_pos (List.mem_range.mp hj)]
theorem aug_last {A : Mx} {b : Nat → Rat} {w k : Nat} : augM A b w k w = b k := by unfold augM; rw [if_neg (Nat.lt_irrefl _)]
theorem sys_std (R : IsRing n P r) (t : Tab n P) : Sys (r.length + 1) r.length (augM (stdA P r) (stdb r) r.length) fun j => pi0 P r (r.getD j 0) := by
  have S := pi_spec R t
  -- a row, at a vector on the casks
  have row : ∀ (v : Nat → Rat) k, k < r.length → sm (rg r.length) (fun j => stdA P r k j * v (r.getD j 0)) = sm r (fun c => P (r.getD k 0) c * v c) - v (r.getD k 0) := fun v k hk => by
    have e : sm (rg r.length) (fun j => stdA P r k j * v (r.getD j 0)) = sm r fun c => (P (r.getD k 0) c - (if r.getD k 0 = c then 1 else 0)) * v c := by
      rw [← sm_idx (l := r)]
      exact sm_congr fun j _ => by unfold stdA; rw [if_pos hk]
    rw [e, ← sm_del R.nd (getD_in hk) (f := v), ← sm_sub]
    exact sm_congr fun c _ => by grind
  have lastrow : ∀ v : Nat → Rat, sm (rg r.length) (fun j => stdA P r r.length j * v (r.getD j 0)) = sm r v := fun v => by
    rw [← sm_idx (l := r)]
    exact sm_congr fun j _ => by unfold stdA; rw [if_neg (Nat.lt_irrefl _)]; grind
  refine ⟨fun k hk => ?_, fun y hy j hj => ?_⟩
  · rw [aug_sum, aug_last]
    by_cases h : k < r.length
    · rw [row (pi0 P r) k h, S.st _ (getD_in h)]
      unfold stdb; rw [if_pos h]; grind
    · have e : k = r.length := by omega
      subst e
      rw [lastrow (pi0 P r), S.one]
      unfold stdb; rw [if_neg h]
  · have hy' : ∀ k, k < r.length + 1 → sm (rg r.length) (fun j => stdA P r k j * y j) = stdb r k := fun k hk => by
      have := hy k hk; rwa [aug_sum, aug_last] at this
    have ey : ∀ k, sm (rg r.length) (fun j => stdA P r k j * y j) = sm (rg r.length) (fun j => stdA P r k j * (fun c => y (r.idxOf c)) (r.getD j 0)) := fun k => sm_congr fun j hj => by
      show _ = stdA P r k j * y (r.idxOf (r.getD j 0))
      rw [idx_getD R.nd (List.mem_range.mp hj)]
    have hz := still_unique R t (v := fun c => y (r.idxOf c) - pi0 P r c) (fun i hi => by
      obtain ⟨h1, h2⟩ := getD_idx hi
      have a1 := (row (fun c => y (r.idxOf c)) _ h1).symm.trans ((ey _).symm.trans (hy' (r.idxOf i) (by omega)))
      rw [h2] at a1
      have a2 := S.st i hi
      have e : sm r (fun j => P i j * (y (r.idxOf j) - pi0 P r j)) = sm r (fun c => P i c * y (r.idxOf c)) - sm r (fun c => P i c * pi0 P r c) := by
        rw [← sm_sub]; exact sm_congr fun c _ => by grind
      rw [e, a2]
      have a1' : sm r (fun c => P i c * y (r.idxOf c)) - y (r.idxOf i) = stdb r (r.idxOf i) := a1
      unfold stdb at a1'
      rw [if_pos h1] at a1'
      grind) (by
      have a1 := (lastrow fun c => y (r.idxOf c)).symm.trans ((ey _).symm.trans (hy' r.length (by omega)))
      unfold stdb at a1
      rw [if_neg (Nat.lt_irrefl _)] at a1
      rw [sm_sub, S.one]
      have a1' : sm r (fun c => y (r.idxOf c)) = 1 := a1
      rw [a1']; grind) _ (getD_in hj)
    rw [idx_getD R.nd hj] at hz
    have hz' : y j - pi0 P r (r.getD j 0) = 0 := hz
    show y j = pi0 P r (r.getD j 0)
    grind
def cinA (P : Mx) (l : List Nat) : Mx := fun k j => (if l.getD j 0 = l.getD k 0 then 1 else 0) - P (l.getD j 0) (l.getD k 0)
def cinb (P : Mx) (l r : List Nat) (k : Nat) : Rat := sm r fun i => P i (l.getD k 0)
theorem sys_cin (t : Tab n P) : Sys (loose n P).length (loose n P).length (augM (cinA P (loose n P)) (cinb P (loose n P) r) (loose n P).length) fun j => hh n P r ((loose n P).getD j 0) := by
  have S := hh_spec (r := r) t
  have nd := loose_nodup (n := n) (A := P)
  have row : ∀ (v : Nat → Rat) k, k < (loose n P).length → sm (rg (loose n P).length) (fun j => cinA P (loose n P) k j * v ((loose n P).getD j 0)) = v ((loose n P).getD k 0) - sm (loose n P) (fun o => P o ((loose n P).getD k 0) * v o) := fun v k hk => by
    have e : sm (rg (loose n P).length) (fun j => cinA P (loose n P) k j * v ((loose n P).getD j 0)) = sm (loose n P) fun c => ((if (loose n P).getD k 0 = c then 1 else 0) - P c ((loose n P).getD k 0)) * v c := by
      rw [← sm_idx (l := loose n P)]
      refine sm_congr fun j _ => ?_
      unfold cinA
      by_cases h : (loose n P).getD j 0 = (loose n P).getD k 0
      · rw [if_pos h, if_pos h.symm]
      · rw [if_neg h, if_neg (Ne.symm h)]
    rw [e, ← sm_del nd (getD_in hk) (f := v), ← sm_sub]
    exact sm_congr fun c _ => by grind
  refine ⟨fun k hk => ?_, fun y hy j hj => ?_⟩
  · rw [aug_sum, aug_last, row (hh n P r) k hk]
    have h := S _ (getD_in hk)
    unfold cinb
    grind
  · have hy' : ∀ k, k < (loose n P).length → sm (rg (loose n P).length) (fun j => cinA P (loose n P) k j * y j) = cinb P (loose n P) r k := fun k hk => by
      have := hy k hk; rwa [aug_sum, aug_last] at this
    have ey : ∀ k, sm (rg (loose n P).length) (fun j => cinA P (loose n P) k j * y j) = sm (rg (loose n P).length) (fun j => cinA P (loose n P) k j * (fun c => y ((loose n P).idxOf c)) ((loose n P).getD j 0)) := fun k => sm_congr fun j hj => by
      show _ = cinA P (loose n P) k j * y ((loose n P).idxOf ((loose n P).getD j 0))
      rw [idx_getD nd (List.mem_range.mp hj)]
    have hz := loose_zero t (v := fun c => y ((loose n P).idxOf c) - hh n P r c) (fun c hc => by
      obtain ⟨h1, h2⟩ := getD_idx hc
      have a1 := (row (fun c => y ((loose n P).idxOf c)) _ h1).symm.trans ((ey _).symm.trans (hy' ((loose n P).idxOf c) h1))
      rw [h2] at a1
      have a2 := S c hc
      have e : sm (loose n P) (fun o => P o c * (y ((loose n P).idxOf o) - hh n P r o)) = sm (loose n P) (fun o => P o c * y ((loose n P).idxOf o)) - sm (loose n P) (fun o => P o c * hh n P r o) := by
        rw [← sm_sub]; exact sm_congr fun o _ => by grind
      rw [e]
      unfold cinb at a1
      rw [h2] at a1
      have a1' : y ((loose n P).idxOf c) - sm (loose n P) (fun o => P o c * y ((loose n P).idxOf o)) = sm r fun i => P i c := a1
      grind) _ (getD_in hj)
    have hz' : y ((loose n P).idxOf ((loose n P).getD j 0)) - hh n P r ((loose n P).getD j 0) = 0 := hz
    rw [idx_getD nd hj] at hz'
    show y j = hh n P r ((loose n P).getD j 0)
    grind
end
end Ck
end

section
set_option Elab.async false
set_option linter.all false
set_option maxHeartbeats 1000000
/-! sizes of the ends. -/
namespace Ck
def n2 : Nat → Nat
  | 0 => 16
  | c + 1 => 2 * n2 c + 1
def d2 : Nat → Nat
  | 0 => 16
  | c + 1 => d2 c + n2 c
theorem d2_le : ∀ c, d2 c ≤ n2 c
  | 0 => Nat.le_refl _
  | c + 1 => by have := d2_le c; show d2 c + n2 c ≤ 2 * n2 c + 1; omega
theorem Sys.steps {m w : Nat} {F : Mx} {x : Nat → Rat} (S : Sys m w F x) (Z : Siz m w F 16 16) (hwm : w ≤ m) : ∀ c, c ≤ w → ∃ G, RInv m w c G x ∧ Siz m w G (d2 c) (n2 c)
  | 0, _ => ⟨F, { toSys := S, unit := fun _ _ _ h => absurd h (Nat.not_lt_zero _) }, Z⟩
  | c + 1, h => by
    obtain ⟨G, R, Z⟩ := S.steps Z hwm c (by omega)
    obtain ⟨k, h1, h2, h3⟩ := R.piv (by omega)
    exact ⟨stp G c k, R.step (by omega) h2 h1 h3, Z.step (d2_le c) (by omega) h2 h1 h3⟩
theorem Sys.den {m w : Nat} {F : Mx} {x : Nat → Rat} (S : Sys m w F x) (Z : Siz m w F 16 16) (hwm : w ≤ m) : ∃ D : Nat, 0 < D ∧ D ≤ 2 ^ d2 w ∧ ∀ j, j < w → (x j).den ∣ D := by
  obtain ⟨G, R, D, hD, hDs, hz⟩ := S.steps Z hwm w (Nat.le_refl _)
  refine ⟨D, hD, Nat.le_of_lt hDs, fun j hj => ?_⟩
  rw [← R.last hwm j hj]
  obtain ⟨z, e, _⟩ := hz j w (by omega) (Nat.le_refl _)
  exact den_dvd hD e
theorem den_mul {p q : Rat} {D E : Nat} (hD : 0 < D) (hE : 0 < E) (h : p.den ∣ D) (g : q.den ∣ E) : (p * q).den ∣ D * E := by
  obtain ⟨y, hy⟩ := den_int h
  obtain ⟨z, hz⟩ := den_int g
  refine den_dvd (Nat.mul_pos hD hE) (z := y * z) ?_
  rw [Int.natCast_mul, Rat.intCast_mul, Rat.intCast_mul, ← hy, ← hz]; grind
theorem den_add {p q : Rat} {D : Nat} (hD : 0 < D) (h : p.den ∣ D) (g : q.den ∣ D) : (p + q).den ∣ D := by
  obtain ⟨y, hy⟩ := den_int h
  obtain ⟨z, hz⟩ := den_int g
  refine den_dvd hD (z := y + z) ?_
  rw [Rat.intCast_add, ← hy, ← hz]; grind
theorem den_sub {p q : Rat} {D : Nat} (hD : 0 < D) (h : p.den ∣ D) (g : q.den ∣ D) : (p - q).den ∣ D := by
  obtain ⟨y, hy⟩ := den_int h
  obtain ⟨z, hz⟩ := den_int g
  refine den_dvd hD (z := y - z) ?_
  rw [Rat.intCast_sub, ← hy, ← hz]; grind
theorem den_sm {D : Nat} (hD : 0 < D) {f : Nat → Rat} : ∀ {l : List Nat}, (∀ x ∈ l, (f x).den ∣ D) → (sm l f).den ∣ D
  | [], _ => by show (0 : Rat).den ∣ D; exact Nat.one_dvd _
  | a :: l, h => by rw [sm_cons]; exact den_add hD (h a List.mem_cons_self) (den_sm hD fun x hx => h x (List.mem_cons_of_mem _ hx))
theorem den_mat {n D E : Nat} {A B : Mx} (hD : 0 < D) (hE : 0 < E) (h : ∀ i j, i < n → j < n → (A i j).den ∣ D) (g : ∀ i j, i < n → j < n → (B i j).den ∣ E) : ∀ i j, i < n → j < n → (mul n A B i j).den ∣ D * E := fun i j hi hj =>
  den_sm (Nat.mul_pos hD hE) fun k hk => den_mul hD hE (h i k hi (List.mem_range.mp hk)) (g k j (List.mem_range.mp hk) hj)
theorem den_idm {i j : Nat} : (idm i j).den = 1 := by unfold idm; split <;> rfl
theorem den_pw {n D : Nat} {A : Mx} (hD : 0 < D) (h : ∀ i j, i < n → j < n → (A i j).den ∣ D) : ∀ k, ∀ i j, i < n → j < n → (pw n A k i j).den ∣ D ^ k
  | 0 => fun i j _ _ => by show (idm i j).den ∣ _; rw [den_idm]; exact Nat.one_dvd _
  | k + 1 => fun i j hi hj => by
    rw [pw_succ' A k i j hi hj, Nat.pow_succ]
    exact den_mat (Nat.pow_pos hD) hD (den_pw hD h k) h i j hi hj
theorem siz_of {m w D : Nat} {F : Mx} (hD : 0 < D) (hD16 : D < 2 ^ 16) (h : ∀ k j, k < m → j ≤ w → (F k j).den ∣ D ∧ ab (F k j) ≤ 1) : Siz m w F 16 16 := by
  refine ⟨D, hD, hD16, fun k j hk hj => ?_⟩
  obtain ⟨h1, h2⟩ := h k j hk hj
  obtain ⟨z, hz⟩ := den_int h1
  refine ⟨z, hz, ?_⟩
  have hD0 : (0 : Rat) ≤ ((D : Int) : Rat) := Rat.intCast_nonneg.mpr (by omega)
  have a1 : ((z : Int) : Rat) ≤ ((D : Int) : Rat) := by
    rw [← hz]
    have := Rat.mul_le_mul_of_nonneg_right (Rat.le_trans (le_ab (F k j)) h2) hD0
    rw [Rat.one_mul] at this; exact this
  have a2 : ((-z : Int) : Rat) ≤ ((D : Int) : Rat) := by
    rw [Rat.intCast_neg, ← hz]
    have := Rat.mul_le_mul_of_nonneg_right (Rat.le_trans (neg_le_ab (F k j)) h2) hD0
    rw [Rat.one_mul] at this
    grind
  have b1 := Rat.intCast_le_intCast.mp a1
  have b2 := Rat.intCast_le_intCast.mp a2
  omega
theorem ab_unit {x : Rat} (h0 : 0 ≤ x) (h1 : x ≤ 1) : ab x ≤ 1 := ab_le h1 (by grind)
theorem ab_diff {x y : Rat} (h0 : 0 ≤ x) (h1 : x ≤ 1) (g0 : 0 ≤ y) (g1 : y ≤ 1) : ab (x - y) ≤ 1 := ab_le (by grind) (by grind)
theorem ab_one : ab 1 ≤ 1 := ab_unit (by decide) (by decide)
theorem ab_zero' : ab 0 ≤ 1 := ab_unit (by decide) (by decide)
theorem del_unit {i j : Nat} : (0 : Rat) ≤ (if i = j then 1 else 0) ∧ (if i = j then (1 : Rat) else 0) ≤ 1 ∧ (if i = j then (1 : Rat) else 0).den = 1 := by split <;> exact ⟨by decide, by decide, rfl⟩
section
variable {n : Nat} {P : Mx} {r : List Nat} {D : Nat}
theorem sm_ring_le (R : IsRing n P r) {f : Nat → Rat} (h : ∀ i, i < n → 0 ≤ f i) : sm r f ≤ sm (rg n) f := by
  have e : sm (rg n) (fun x => if x ∈ r then f x else 0) = sm r f := by
    rw [sm_part List.nodup_range R.nd (ring_sub R) fun x _ h => by rw [if_neg h]]
    exact sm_congr fun x hx => by rw [if_pos hx]
  rw [← e]
  refine sm_le fun x hx => ?_
  split
  · exact Rat.le_refl
  · exact h x (List.mem_range.mp hx)
theorem siz_std (R : IsRing n P r) (t : Tab n P) (hD : 0 < D) (hD16 : D < 2 ^ 16) (h : ∀ i j, i < n → j < n → (P i j).den ∣ D) : Siz (r.length + 1) r.length (augM (stdA P r) (stdb r) r.length) 16 16 := by
  refine siz_of hD hD16 fun k j hk hj => ?_
  unfold augM
  split
  · rename_i hj'
    unfold stdA
    split
    · rename_i hk'
      have h1 := R.lt _ (getD_in hk')
      have h2 := R.lt _ (getD_in hj')
      obtain ⟨d0, d1, dd⟩ := del_unit (i := r.getD k 0) (j := r.getD j 0)
      exact ⟨den_sub hD (h _ _ h1 h2) (by rw [dd]; exact Nat.one_dvd _), ab_diff (t.nn _ _ h1 h2) (t.le1 h1 h2) d0 d1⟩
    · exact ⟨Nat.one_dvd _, ab_one⟩
  · unfold stdb
    split
    · exact ⟨Nat.one_dvd _, ab_zero'⟩
    · exact ⟨Nat.one_dvd _, ab_one⟩
theorem cinb_unit (R : IsRing n P r) (t : Tab n P) (hD : 0 < D) (h : ∀ i j, i < n → j < n → (P i j).den ∣ D) {c : Nat} (hc : c < n) : 0 ≤ sm r (fun i => P i c) ∧ sm r (fun i => P i c) ≤ 1 ∧ (sm r fun i => P i c).den ∣ D :=
  ⟨sm_nonneg fun i hi => t.nn i c (R.lt i hi) hc, Rat.le_trans (sm_ring_le R fun i hi => t.nn i c hi hc) (t.le c hc), den_sm hD fun i hi => h i c (R.lt i hi) hc⟩
theorem siz_cin (R : IsRing n P r) (t : Tab n P) (hD : 0 < D) (hD16 : D < 2 ^ 16) (h : ∀ i j, i < n → j < n → (P i j).den ∣ D) : Siz (loose n P).length (loose n P).length (augM (cinA P (loose n P)) (cinb P (loose n P) r) (loose n P).length) 16 16 := by
  refine siz_of hD hD16 fun k j hk hj => ?_
  have h1 := loose_lt (getD_in hk)
  unfold augM
  split
  · rename_i hj'
    have h2 := loose_lt (getD_in hj')
    unfold cinA
    obtain ⟨d0, d1, dd⟩ := del_unit (i := (loose n P).getD j 0) (j := (loose n P).getD k 0)
    exact ⟨den_sub hD (by rw [dd]; exact Nat.one_dvd _) (h _ _ h2 h1), ab_diff d0 d1 (t.nn _ _ h2 h1) (t.le1 h2 h1)⟩
  · unfold cinb
    obtain ⟨a, b, c⟩ := cinb_unit R t hD h h1
    exact ⟨c, ab_unit a b⟩
def e2 (l : Nat) : Nat := if l = 0 then 0 else d2 l
theorem ring_den (R : IsRing n P r) (t : Tab n P) (hD : 0 < D) (hD16 : D < 2 ^ 16) (h : ∀ i j, i < n → j < n → (P i j).den ∣ D) : ∃ E : Nat, 0 < E ∧ E ≤ 2 ^ d2 r.length ∧ ∀ i ∈ r, (pi0 P r i).den ∣ E := by
  obtain ⟨E, h1, h2, h3⟩ := (sys_std R t).den (siz_std R t hD hD16 h) (by omega)
  refine ⟨E, h1, h2, fun i hi => ?_⟩
  obtain ⟨a, b⟩ := getD_idx hi
  have := h3 _ a
  rw [b] at this; exact this
theorem loose_den (R : IsRing n P r) (t : Tab n P) (hD : 0 < D) (hD16 : D < 2 ^ 16) (h : ∀ i j, i < n → j < n → (P i j).den ∣ D) : ∃ E : Nat, 0 < E ∧ E ≤ 2 ^ e2 (loose n P).length ∧ ∀ i ∈ loose n P, (hh n P r i).den ∣ E := by
  unfold e2
  split
  · rename_i e
    exact ⟨1, by decide, by decide, fun i hi => by rw [List.length_eq_zero_iff.mp e] at hi; cases hi⟩
  · obtain ⟨E, h1, h2, h3⟩ := (sys_cin (r := r) t).den (siz_cin R t hD hD16 h) (Nat.le_refl _)
    refine ⟨E, h1, h2, fun i hi => ?_⟩
    obtain ⟨a, b⟩ := getD_idx hi
    have := h3 _ a
    rw [b] at this; exact this
theorem d2_108 {w : Nat} (h : w ≤ 5) (h0 : w ≠ 0) : d2 w ≤ 108 * w := by
  have : w = 1 ∨ w = 2 ∨ w = 3 ∨ w = 4 ∨ w = 5 := by omega
  rcases this with rfl | rfl | rfl | rfl | rfl <;> decide
theorem ke2 {k l : Nat} (h : k + l ≤ 5) : k * e2 l ≤ 267 := by
  have hl : l = 0 ∨ l = 1 ∨ l = 2 ∨ l = 3 ∨ l = 4 ∨ l = 5 := by omega
  have hk : k ≤ 5 - l := by omega
  rcases hl with rfl | rfl | rfl | rfl | rfl | rfl
  · show k * 0 ≤ 267; omega
  · show k * 32 ≤ 267; omega
  · show k * 65 ≤ 267; omega
  · show k * 132 ≤ 267; omega
  · show k * 267 ≤ 267; omega
  · show k * 538 ≤ 267; omega
theorem en_dens (t : Tab n P) (hD : 0 < D) (hD16 : D < 2 ^ 16) (h : ∀ i j, i < n → j < n → (P i j).den ∣ D) : ∀ l : List (List Nat), (∀ r ∈ l, r ∈ rgs n P) → l.flatten.length ≤ 5 → ∃ E : Nat, 0 < E ∧ E ≤ 2 ^ (108 * l.flatten.length + l.length * e2 (loose n P).length) ∧ ∀ r ∈ l, ∀ i ∈ r, ∀ c, (pi0 P r i * wve n P r c).den ∣ E
  | [], _, _ => ⟨1, by decide, by show 1 ≤ 2 ^ (108 * 0 + 0 * _); rw [Nat.zero_mul]; decide, fun r h => absurd h (by simp)⟩
  | r :: l, hl, h5 => by
    rw [List.flatten_cons, List.length_append] at h5
    have hr := hl r List.mem_cons_self
    have R := isRing hr
    obtain ⟨E, h1, h2, h3⟩ := en_dens t hD hD16 h l (fun s hs => hl s (List.mem_cons_of_mem _ hs)) (by omega)
    obtain ⟨E1, a1, a2, a3⟩ := ring_den R t hD hD16 h
    obtain ⟨E2, b1, b2, b3⟩ := loose_den R t hD hD16 h
    refine ⟨(E1 * E2) * E, Nat.mul_pos (Nat.mul_pos a1 b1) h1, ?_, fun s hs i hi c => ?_⟩
    · rw [List.flatten_cons, List.length_append, List.length_cons, show 108 * (r.length + l.flatten.length) + (l.length + 1) * e2 (loose n P).length = (108 * r.length + e2 (loose n P).length) + (108 * l.flatten.length + l.length * e2 (loose n P).length) by rw [Nat.add_mul]; omega, Nat.pow_add, Nat.pow_add]
      refine Nat.mul_le_mul (Nat.mul_le_mul (Nat.le_trans a2 (Nat.pow_le_pow_right (by decide) (d2_108 (by omega) fun e => R.ne (List.length_eq_zero_iff.mp e)))) b2) h2
    · rcases List.mem_cons.mp hs with e | e
      · subst e
        refine Nat.dvd_trans ?_ (Nat.dvd_mul_right _ _)
        refine den_mul a1 b1 (a3 i hi) ?_
        unfold wve
        split
        · exact Nat.one_dvd _
        · split
          · rename_i hc; exact b3 c hc
          · exact Nat.one_dvd _
      · exact Nat.dvd_trans (h3 s e i hi c) (Nat.dvd_mul_left _ _)
theorem bound_len : (rgs n P).flatten.length + (loose n P).length ≤ n := by
  have nd : ((rgs n P).flatten ++ loose n P).Nodup := List.nodup_append.mpr ⟨rgs_flat.1, loose_nodup, fun a ha b hb e => by
    subst e
    obtain ⟨s, hs, has⟩ := List.mem_flatten.mp ha
    exact (mem_loose.mp hb).2 s hs has⟩
  have := len_sub (r := List.range n) nd fun i hi => by
    rcases List.mem_append.mp hi with h | h
    · obtain ⟨s, hs, has⟩ := List.mem_flatten.mp h
      exact List.mem_range.mpr ((isRing hs).lt i has)
    · exact List.mem_range.mpr (loose_lt h)
  rw [List.length_append, List.length_range] at this; exact this
theorem rgs_len' : (rgs n P).length ≤ (rgs n P).flatten.length := by
  have h : ∀ l : List (List Nat), (∀ r ∈ l, r ≠ []) → l.length ≤ l.flatten.length := by
    intro l
    induction l with
    | nil => intro _; exact Nat.le_refl _
    | cons r l ih =>
      intro h
      have h1 := ih fun s hs => h s (List.mem_cons_of_mem _ hs)
      have h2 : 0 < r.length := List.length_pos_iff.mpr (h r List.mem_cons_self)
      rw [List.flatten_cons, List.length_append, List.length_cons]; omega
  exact h _ fun r hr => (isRing hr).ne
theorem en_den (t : Tab n P) (h5 : n ≤ 5) (hD : 0 < D) (hD16 : D < 2 ^ 16) (h : ∀ i j, i < n → j < n → (P i j).den ∣ D) : ∃ E : Nat, 0 < E ∧ E ≤ 2 ^ 807 ∧ ∀ i j, i < n → j < n → (En0 n P i j).den ∣ E := by
  have b1 := bound_len (n := n) (P := P)
  have b2 := rgs_len' (n := n) (P := P)
  obtain ⟨E, h1, h2, h3⟩ := en_dens t hD hD16 h (rgs n P) (fun _ h => h) (by omega)
  refine ⟨E, h1, Nat.le_trans h2 (Nat.pow_le_pow_right (by decide) ?_), fun i j hi hj => ?_⟩
  · have := ke2 (k := (rgs n P).length) (l := (loose n P).length) (by omega)
    omega
  · by_cases q : ∃ r ∈ rgs n P, i ∈ r
    · obtain ⟨r, hr, hir⟩ := q
      rw [en_at hr hir]; exact h3 r hr i hir j
    · rw [en_no fun r hr hi => q ⟨r, hr, hi⟩]; exact Nat.one_dvd _
end
end Ck
end

section
set_option Elab.async false
set_option linter.all false
set_option maxHeartbeats 1000000
/-! the rings of a power; distances. -/
namespace Ck
section
variable {n p : Nat} {A : Mx}
theorem wk_pw (t : Tab n A) {m j i : Nat} (hj : j < n) (hi : i < n) : Wk n (pw n A p) m j i ↔ Wk n A (p * m) j i := by
  rw [← pw_pos (t.pw p) hi hj, pw_mul A p m i j hi hj, pw_pos t hi hj]
theorem rch_pw (t : Tab n A) {j i : Nat} (h : Rch n (pw n A p) j i) : Rch n A j i := by
  obtain ⟨m, h⟩ := h
  exact ⟨_, (wk_pw t h.lt1 h.lt2).mp h⟩
theorem rch_eq {B : Mx} {i j : Nat} (h1 : Rch n B i j) (h2 : Rch n B j i) : rch n B i = rch n B j := by
  unfold rch
  refine List.filter_congr fun k _ => ?_
  have : Rch n B i k ↔ Rch n B j k := ⟨fun h => h2.trans h, fun h => h1.trans h⟩
  exact decide_eq_decide.mpr this
theorem col_ring {r : List Nat} (R : IsRing n A r) (t : Tab n A) : ∀ m, ∀ j ∈ r, col n (pw n A m) j = 1
  | 0, j, hj => by
    show sm (rg n) (fun i => idm i j) = 1
    have e : sm (rg n) (fun i => idm i j) = sm (rg n) fun i => (if j = i then 1 else 0) * (fun _ => (1 : Rat)) i := sm_congr fun i _ => by
      unfold idm
      by_cases h : i = j
      · rw [if_pos h, if_pos h.symm]; grind
      · rw [if_neg h, if_neg (Ne.symm h)]; grind
    rw [e, sm_del List.nodup_range (List.mem_range.mpr (R.lt j hj))]
  | m + 1, j, hj => by
    have hjn := R.lt j hj
    have e : col n (pw n A (m + 1)) j = col n (mul n (pw n A m) A) j := sm_congr fun i hi => pw_succ' A m i j (List.mem_range.mp hi) hjn
    rw [e, col_mul, ← R.one j hj]
    show sm (rg n) (fun k => col n (pw n A m) k * A k j) = sm (rg n) fun k => A k j
    refine sm_congr fun k hk => ?_
    by_cases h : k ∈ r
    · rw [col_ring R t m k h]; grind
    · rw [R.zero t hj (List.mem_range.mp hk) h]; grind
/-- in a ring of the table: in a ring of its power -/
theorem ringy_pw {r : List Nat} (hr : r ∈ rgs n A) (t : Tab n A) (hp : 1 ≤ p) {i : Nat} (hi : i ∈ r) : Ringy n (pw n A p) i := by
  have R := isRing hr
  have hin := R.lt i hi
  intro o ho
  have hio := mem_rch.mp ho
  obtain ⟨m, hw⟩ := hio
  have hon := hw.lt2
  have hwA := (wk_pw t hin hon).mp hw
  have hor : o ∈ r := by rw [← R.eq i hi]; exact mem_rch.mpr ⟨_, hwA⟩
  refine ⟨?_, col_ring R t p o hor⟩
  obtain ⟨L, hL⟩ := R.conn hor hi
  have hc : Wk n A (p * m + L) i i := hwA.app hL
  have h2 := hL.app (hc.rep (p - 1))
  have e : L + (p - 1) * (p * m + L) = p * (L + (p - 1) * m) := by
    obtain ⟨q, rfl⟩ : ∃ q, p = q + 1 := ⟨p - 1, by omega⟩
    rw [Nat.add_sub_cancel]
    have h1 : q * ((q + 1) * m + L) = (q + 1) * (q * m) + q * L := by
      rw [Nat.mul_add, ← Nat.mul_assoc, ← Nat.mul_assoc, Nat.mul_comm q (q + 1)]
    rw [h1, Nat.mul_add, Nat.succ_mul q L]; omega
  rw [e] at h2
  exact rch_eq ⟨_, (wk_pw t hon hin).mpr h2⟩ ⟨m, hw⟩
theorem col_step (t : Tab n A) {m j : Nat} (hj : j < n) : col n (pw n A (m + 1)) j ≤ col n (pw n A m) j := by
  show col n (mul n A (pw n A m)) j ≤ _
  rw [col_mul]
  refine sm_le fun k hk => ?_
  have h1 := t.le k (List.mem_range.mp hk)
  have h2 := (t.pw m).nn k j (List.mem_range.mp hk) hj
  have := Rat.mul_le_mul_of_nonneg_right h1 h2
  rw [Rat.one_mul] at this; exact this
theorem col_mono (t : Tab n A) {m j : Nat} (hj : j < n) : ∀ k, col n (pw n A (m + k)) j ≤ col n (pw n A m) j
  | 0 => Rat.le_refl
  | k + 1 => Rat.le_trans (col_step t hj) (col_mono t hj k)
/-- all is kept for ever: all is kept wherever it goes -/
theorem col_all (t : Tab n A) {i : Nat} (hi : i < n) (hp : 1 ≤ p) (h : ∀ m, col n (pw n A (p * m)) i = 1) {a o : Nat} (hw : Wk n A a i o) : col n A o = 1 := by
  have ho := hw.lt2
  have hpos := (pw_pos t ho hi).mpr hw
  have h1 : ∀ m, 1 ≤ col n (pw n A m) i := fun m => by
    have e := h m
    obtain ⟨k, hk⟩ : ∃ k, p * m = m + k := ⟨p * m - m, by have := Nat.le_mul_of_pos_left m hp; omega⟩
    have := col_mono t hi (m := m) k
    rw [← hk, e] at this; exact this
  have h2 := h1 (a + 1)
  have h3 : col n (pw n A (a + 1)) i = sm (rg n) fun k => col n A k * pw n A a k i := col_mul A (pw n A a) i
  have h4 := (t.pw a).le i hi
  have ht := sm_tight (l := rg n) (f := fun k => col n A k * pw n A a k i) (g := fun k => pw n A a k i) (fun k hk => by
    have q1 := t.le k (List.mem_range.mp hk)
    have q2 := (t.pw a).nn k i (List.mem_range.mp hk) hi
    have := Rat.mul_le_mul_of_nonneg_right q1 q2
    rw [Rat.one_mul] at this; exact this) (by
    rw [← h3]; exact Rat.le_trans h4 h2) o (List.mem_range.mpr ho)
  have ht' : col n A o * pw n A a o i = pw n A a o i := ht
  have hne : pw n A a o i ≠ 0 := by grind
  grind
theorem extend (t : Tab n A) {i : Nat} (h : ∀ a o, Wk n A a i o → col n A o = 1) {a o : Nat} (hw : Wk n A a i o) : ∀ b, ∃ x, Wk n A b o x
  | 0 => ⟨o, .nil hw.lt2⟩
  | b + 1 => by
    obtain ⟨x, hx⟩ := extend t h hw b
    have h1 := h _ _ (hw.app hx)
    have h2 : 0 < sm (rg n) fun k => A k x := by
      have : sm (rg n) (fun k => A k x) = 1 := h1
      rw [this]; decide
    obtain ⟨y, hy, hp⟩ := (sm_pos_iff fun k hk => t.nn k x (List.mem_range.mp hk) hx.lt2).mp h2
    exact ⟨y, hx.app (Wk.one hx.lt2 (List.mem_range.mp hy) hp)⟩
/-- in a ring of the power: in a ring of the table -/
theorem ringy_of (t : Tab n A) (hp : 1 ≤ p) {s : List Nat} (hs : s ∈ rgs n (pw n A p)) {i : Nat} (hi : i ∈ s) : Ringy n A i := by
  have S := isRing hs
  have hin := S.lt i hi
  have hcol : ∀ m, col n (pw n A (p * m)) i = 1 := fun m => by
    have h := col_ring S (t.pw p) m i hi
    have e : col n (pw n (pw n A p) m) i = col n (pw n A (p * m)) i := sm_congr fun k hk => pw_mul A p m k i (List.mem_range.mp hk) hin
    rw [← e]; exact h
  have hall : ∀ a o, Wk n A a i o → col n A o = 1 := fun a o hw => col_all t hin hp hcol hw
  intro o ho
  obtain ⟨a, hw⟩ := mem_rch.mp ho
  refine ⟨?_, hall a o hw⟩
  obtain ⟨x, hx⟩ := extend t hall hw (p * a - a)
  have e : a + (p * a - a) = p * a := by have := Nat.le_mul_of_pos_left a hp; omega
  have h1 := hw.app hx
  rw [e] at h1
  have hxs : x ∈ s := by rw [← S.eq i hi]; exact mem_rch.mpr ⟨a, (wk_pw t hin hx.lt2).mpr h1⟩
  obtain ⟨b, hb⟩ := S.conn hxs hi
  have h2 := (wk_pw t hx.lt2 hin).mp hb
  exact rch_eq ⟨_, hx.app h2⟩ ⟨a, hw⟩
/-- each ring of the power lies in one ring of the table -/
theorem ring_sub_pw (t : Tab n A) (hp : 1 ≤ p) {s : List Nat} (hs : s ∈ rgs n (pw n A p)) : ∃ r ∈ rgs n A, (∀ i ∈ s, i ∈ r) ∧ ∀ r' ∈ rgs n A, (∀ i ∈ s, i ∈ r') → r' = r := by
  have S := isRing hs
  obtain ⟨i, hi⟩ := List.exists_mem_of_ne_nil s S.ne
  have hr := ring_of (S.lt i hi) (ringy_of t hp hs hi)
  have hir : i ∈ rch n A i := mem_rch.mpr (.refl (S.lt i hi))
  refine ⟨_, hr, fun o ho => ?_, fun r' hr' h => ring_same hr' hr (h i hi) hir⟩
  obtain ⟨m, hw⟩ := S.conn hi ho
  exact mem_rch.mpr ⟨_, (wk_pw t (S.lt i hi) (S.lt o ho)).mp hw⟩
theorem flat_mem (t : Tab n A) (hp : 1 ≤ p) {i : Nat} : i ∈ (rgs n (pw n A p)).flatten ↔ i ∈ (rgs n A).flatten := by
  rw [List.mem_flatten, List.mem_flatten]
  constructor
  · rintro ⟨s, hs, hi⟩
    exact ⟨_, ring_of ((isRing hs).lt i hi) (ringy_of t hp hs hi), mem_rch.mpr (.refl ((isRing hs).lt i hi))⟩
  · rintro ⟨r, hr, hi⟩
    have hin := (isRing hr).lt i hi
    exact ⟨_, ring_of hin (ringy_pw hr t hp hi), mem_rch.mpr (.refl hin)⟩
theorem flat_len (t : Tab n A) (hp : 1 ≤ p) : (rgs n (pw n A p)).flatten.length = (rgs n A).flatten.length :=
  ((List.perm_ext_iff_of_nodup rgs_flat.1 rgs_flat.1).mpr fun _ => flat_mem t hp).length_eq
/-- the rings of the power have the period 1 -/
theorem per_pw (t : Tab n A) (hp : 1 ≤ p) (hg : ∃ g : List Nat → Nat, ∀ r ∈ rgs n A, Per n A r (g r) ∧ g r ∣ p) {s : List Nat} (hs : s ∈ rgs n (pw n A p)) {h : Nat} (H : Per n (pw n A p) s h) : h = 1 := by
  have S := isRing hs
  obtain ⟨g, hg⟩ := hg
  obtain ⟨i, hi⟩ := List.exists_mem_of_ne_nil s S.ne
  have hin := S.lt i hi
  have hr := ring_of hin (ringy_of t hp hs hi)
  have hir : i ∈ rch n A i := mem_rch.mpr (.refl hin)
  obtain ⟨P, hdp⟩ := hg _ hr
  have h1 := (H.pos S (t.pw p)).1
  have hN : 0 < h * p := Nat.mul_pos h1 hp
  have gsub : Sub0 fun z => ∃ m, Wk n A m i i ∧ ((h * p : Nat) : Int) ∣ z - m := by
    refine ⟨⟨0, .nil hin, by simp⟩, ?_⟩
    rintro x y ⟨a, ha, q1⟩ ⟨b, hb, q2⟩
    refine ⟨a + (h * p - 1) * b, ha.app (hb.rep _), ?_⟩
    obtain ⟨u, hu⟩ := q1
    obtain ⟨v, hv⟩ := q2
    refine ⟨u - v - b, ?_⟩
    have e : ((a + (h * p - 1) * b : Nat) : Int) = a + (((h * p : Nat) : Int) - 1) * b := by
      rw [Int.natCast_add, Int.natCast_mul, Int.natCast_sub (by omega)]; rfl
    rw [e]
    have hx : x = ((h * p : Nat) : Int) * u + a := by omega
    have hy : y = ((h * p : Nat) : Int) * v + b := by omega
    rw [hx, hy]
    grind
  obtain ⟨m0, hw0, hd⟩ := P.gen _ gsub i hir fun m hw => ⟨m, hw, by simp⟩
  obtain ⟨k, hk⟩ := hdp
  have hwk := hw0.rep k
  -- hp divides p - k m0
  have hd2 : ((h * p : Nat) : Int) ∣ (p : Int) - ((k * m0 : Nat) : Int) := by
    obtain ⟨u, hu⟩ := hd
    refine ⟨k * u, ?_⟩
    have e1 : (p : Int) = (g (rch n A i) : Int) * k := by
      have := congrArg (fun x : Nat => (x : Int)) hk
      rw [Int.natCast_mul] at this; exact this
    have hg' : (g (rch n A i) : Int) = ((h * p : Nat) : Int) * u + m0 := by omega
    rw [Int.natCast_mul k m0]
    have : (p : Int) - (k : Int) * m0 = (k : Int) * ((g (rch n A i) : Int) - m0) := by rw [e1]; grind
    rw [this, hg']; grind
  have hpd : p ∣ k * m0 := by
    have h3 : (p : Int) ∣ (p : Int) - ((k * m0 : Nat) : Int) := Int.dvd_trans ⟨h, by rw [Int.natCast_mul]; grind⟩ hd2
    have h4 : (p : Int) ∣ ((k * m0 : Nat) : Int) := by
      have := Int.dvd_sub (Int.dvd_refl (p : Int)) h3
      rwa [show (p : Int) - ((p : Int) - ((k * m0 : Nat) : Int)) = ((k * m0 : Nat) : Int) by omega] at this
    exact Int.natCast_dvd_natCast.mp h4
  obtain ⟨q, hq⟩ := hpd
  rw [hq] at hwk hd2
  have hdq := H.dvd i hi q ((wk_pw t hin hin).mpr hwk)
  obtain ⟨u, hu⟩ := hd2
  obtain ⟨v, hv⟩ := hdq
  have hp0 : (p : Int) ≠ 0 := by omega
  have e3 : (p : Int) * (1 - (h : Int) * v) = (p : Int) * ((h : Int) * u) := by
    have e4 : ((p * q : Nat) : Int) = (p : Int) * ((h : Int) * v) := by rw [hv, Int.natCast_mul, Int.natCast_mul]
    rw [e4, Int.natCast_mul] at hu
    grind
  have e5 := Int.eq_of_mul_eq_mul_left hp0 e3
  have h1d : (h : Int) ∣ 1 := ⟨u + v, by grind⟩
  exact Nat.dvd_one.mp (Int.natCast_dvd_natCast.mp h1d)
theorem foldl_one : ∀ (l : List (List Nat)) (g : List Nat → Nat), (∀ r ∈ l, g r = 1) → l.foldl (fun a r => Nat.lcm a (g r)) 1 = 1
  | [], _, _ => rfl
  | r :: l, g, h => by
    show l.foldl _ (Nat.lcm 1 (g r)) = 1
    rw [h r List.mem_cons_self]
    exact foldl_one l g fun s hs => h s (List.mem_cons_of_mem _ hs)
theorem perT_pw (t : Tab n A) (h5 : n ≤ 5) (hA : PerT n A p) {q : Nat} (h : PerT n (pw n A p) q) : q = 1 := by
  obtain ⟨hp, _, hg⟩ := hA.bds t h5
  obtain ⟨f, hf, rfl⟩ := h
  exact foldl_one _ f fun s hs => per_pw t hp hg hs (hf s hs)
/-! ### the limits -/
def Lm (n : Nat) (A E : Mx) : Nat → Mx
  | 0 => E
  | k + 1 => mul n A (Lm n A E k)
theorem Lm_eq {E : Mx} : ∀ k, Eqn n (Lm n A E k) (mul n (pw n A k) E)
  | 0 => (idm_mul E).symm
  | k + 1 => by
    have h1 : Eqn n (mul n A (Lm n A E k)) (mul n A (mul n (pw n A k) E)) := mul_congr (Eqn.refl A) (Lm_eq k)
    have h2 : mul n (mul n A (pw n A k)) E = mul n A (mul n (pw n A k) E) := mul_assoc n A (pw n A k) E
    intro i j hi hj
    rw [show Lm n A E (k + 1) = mul n A (Lm n A E k) from rfl, h1 i j hi hj, ← h2]; rfl
theorem Lm_cyc (t : Tab n A) (k : Nat) : Eqn n (mul n (pw n A (p * k)) (En0 n (pw n A p))) (En0 n (pw n A p)) := by
  induction k with
  | zero => exact idm_mul _
  | succ k ih =>
    have h1 : Eqn n (pw n A (p * (k + 1))) (mul n (pw n A (p * k)) (pw n A p)) := by
      rw [Nat.mul_add, Nat.mul_one]; exact pw_add A _ _
    refine (mul_congr h1 (Eqn.refl _)).trans ?_
    rw [mul_assoc]
    exact (mul_congr (Eqn.refl _) (en_still (t.pw p))).trans ih
theorem Lm_mod (t : Tab n A) (k : Nat) : Eqn n (Lm n A (En0 n (pw n A p)) (k % p)) (mul n (pw n A k) (En0 n (pw n A p))) := by
  refine (Lm_eq _).trans ?_
  have h1 : Eqn n (pw n A k) (mul n (pw n A (k % p)) (pw n A (p * (k / p)))) := by
    have := pw_add (n := n) A (k % p) (p * (k / p))
    rw [Nat.mod_add_div] at this; exact this
  refine Eqn.symm ((mul_congr h1 (Eqn.refl _)).trans ?_)
  rw [mul_assoc]
  exact mul_congr (Eqn.refl _) (Lm_cyc t _)
theorem Lm_next (t : Tab n A) (hp : 1 ≤ p) {k : Nat} (hk : k < p) : Eqn n (mul n A (Lm n A (En0 n (pw n A p)) k)) (Lm n A (En0 n (pw n A p)) ((k + 1) % p)) := by
  by_cases h : k + 1 < p
  · rw [Nat.mod_eq_of_lt h]; exact Eqn.refl _
  · have e : k + 1 = p := by omega
    rw [e, Nat.mod_self]
    show Eqn n (Lm n A (En0 n (pw n A p)) (k + 1)) _
    rw [e]
    refine (Lm_eq p).trans ?_
    have := Lm_cyc (p := p) t 1
    rw [Nat.mul_one] at this; exact this
theorem Lm_tab (t : Tab n A) {E : Mx} (e : Tab n E) : ∀ k, Tab n (Lm n A E k)
  | 0 => e
  | k + 1 => t.mul (Lm_tab t e k)
/-- what is left between k rounds and the limit -/
def gap (n : Nat) (A E : Mx) : Nat → Mx
  | 0 => fun i j => idm i j - E i j
  | k + 1 => mul n A (gap n A E k)
theorem gap_eq {E : Mx} : ∀ k, Eqn n (gap n A E k) fun i j => pw n A k i j - mul n (pw n A k) E i j
  | 0 => fun i j hi hj => by
    show idm i j - E i j = idm i j - mul n idm E i j
    rw [idm_mul E i j hi hj]
  | k + 1 => fun i j hi hj => by
    show mul n A (gap n A E k) i j = _
    rw [mul_congr (Eqn.refl A) (gap_eq k) i j hi hj]
    show sm (rg n) (fun x => A i x * (pw n A k x j - mul n (pw n A k) E x j)) = _
    have e1 : sm (rg n) (fun x => A i x * (pw n A k x j - mul n (pw n A k) E x j)) = sm (rg n) (fun x => A i x * pw n A k x j) - sm (rg n) (fun x => A i x * mul n (pw n A k) E x j) := by
      rw [← sm_sub]; exact sm_congr fun x _ => by grind
    rw [e1]
    show mul n A (pw n A k) i j - mul n A (mul n (pw n A k) E) i j = mul n A (pw n A k) i j - mul n (mul n A (pw n A k)) E i j
    rw [mul_assoc]
theorem gap_le (t : Tab n A) {E : Mx} (k j : Nat) : nrm n (gap n A E (k + 1)) j ≤ nrm n (gap n A E k) j := nrm_mul t
theorem gap_lm (t : Tab n A) (k : Nat) : Eqn n (fun i j => pw n A k i j - Lm n A (En0 n (pw n A p)) (k % p) i j) (gap n A (En0 n (pw n A p)) k) := fun i j hi hj => by
  rw [gap_eq k i j hi hj]
  show _ - _ = _ - _
  rw [← Lm_mod t k i j hi hj]
end
end Ck
end

section
set_option Elab.async false
set_option linter.all false
set_option maxRecDepth 100000
/-! Data over the abstract heap that only grows; readings of expressions as data. -/
namespace Ck
open PySem PySem.Spec PyProof.Rows L2
abbrev Fg := PySem.W.Frag
section
variable {K : Fg} {H H' H0 H0' H1 H2 : Hp} {v : V} {vs : List V} {d : PyData} {ds : List PyData}
theorem same_new {p : Addr} {o : HO} (h : H p = none) : Same H (upd H p o) := fun b x e => by
  rw [upd_ne (ne_of_none e h)]; exact e
theorem _root_.L2.Same.tupT {a : Addr} {xs : List V} (s : Same H H') (h : SqT K H a xs) : SqT K H' a xs := by
  rcases h with (h | ⟨o, h⟩) | h
  · exact .inl (.inl (s _ _ h))
  · exact .inl (.inr ⟨o, s _ _ h⟩)
  · exact .inr h
mutual
theorem dpM (s : Same H H') : ∀ (d : PyData) (v : V), Dp K H v d → Dp K H' v d
  | .none, _, h => by cases h; exact .non
  | .bool b, _, h => by cases h; exact .bl b
  | .int i, _, h => by cases h; exact .int i
  | .str x, _, h => by cases h; exact .str x
  | .list ds, _, h => by
    cases h with
    | lst hs ha => exact .lst (Same.seq s hs) (dpAllM s ds _ ha)
  | .tuple ds, _, h => by
    cases h with
    | tup hs ha => exact .tup (Same.tupT s hs) (dpAllM s ds _ ha)
  | .dict _, _, h => by cases h
theorem dpAllM (s : Same H H') : ∀ (ds : List PyData) (vs : List V), DpAll K H vs ds → DpAll K H' vs ds
  | [], _, h => by cases h; exact .nil
  | d :: ds, _, h => by
    cases h with
    | cons h1 h2 => exact .cons (dpM s d _ h1) (dpAllM s ds _ h2)
end
theorem _root_.L2.Dp.mono (s : Same H H') (h : Dp K H v d) : Dp K H' v d := dpM s d v h
theorem _root_.L2.DpAll.mono (s : Same H H') (h : DpAll K H vs ds) : DpAll K H' vs ds := dpAllM s ds vs h
theorem _root_.L2.DpAll.len : ∀ {ds : List PyData} {vs : List V}, DpAll K H vs ds → vs.length = ds.length
  | [], _, h => by cases h; rfl
  | d :: ds, _, h => by
    cases h with
    | cons h1 h2 => simp [h2.len]
theorem _root_.L2.DpAll.at : ∀ {ds : List PyData} {vs : List V} {i : Nat} {d : PyData}, DpAll K H vs ds → ds[i]? = some d → ∃ v, vs[i]? = some v ∧ Dp K H v d
  | _ :: _, _, 0, _, h, e => by
    cases h with
    | cons h1 h2 => simp at e; subst e; exact ⟨_, rfl, h1⟩
  | _ :: _, _, i + 1, _, h, e => by
    cases h with
    | cons h1 h2 => simp at e; simpa using h2.at e
theorem _root_.L2.DpAll.at' : ∀ {ds : List PyData} {vs : List V} {i : Nat} {v : V}, DpAll K H vs ds → vs[i]? = some v → ∃ d, ds[i]? = some d ∧ Dp K H v d
  | [], _, _, _, h, e => by cases h; simp at e
  | _ :: _, _, 0, _, h, e => by
    cases h with
    | cons h1 h2 => simp at e; subst e; exact ⟨_, rfl, h1⟩
  | _ :: _, _, i + 1, _, h, e => by
    cases h with
    | cons h1 h2 => simp at e; simpa using h2.at' e
theorem _root_.L2.DpAll.app : ∀ {ds es : List PyData} {vs us : List V}, DpAll K H vs ds → DpAll K H us es → DpAll K H (vs ++ us) (ds ++ es)
  | [], _, _, _, h, g => by cases h; exact g
  | _ :: _, _, _, _, h, g => by
    cases h with
    | cons h1 h2 => exact .cons h1 (h2.app g)
theorem _root_.L2.DpAll.one (h : Dp K H v d) : DpAll K H [v] [d] := .cons h .nil
theorem _root_.L2.DpAll.setAt : ∀ {ds : List PyData} {vs : List V} {i : Nat} {v : V} {d : PyData}, DpAll K H vs ds → Dp K H v d → DpAll K H (vs.set i v) (ds.set i d)
  | [], _, _, _, _, h, _ => by cases h; exact .nil
  | _ :: _, _, 0, _, _, h, g => by
    cases h with
    | cons h1 h2 => exact .cons g h2
  | _ :: _, _, i + 1, _, _, h, g => by
    cases h with
    | cons h1 h2 => exact .cons h1 (h2.setAt g)
theorem _root_.L2.DpAll.ints {ns : List Int} : DpAll K H (ns.map V.int) (ns.map PyData.int) := by
  induction ns with
  | nil => exact .nil
  | cons n ns ih => exact .cons (.int n) ih
theorem _root_.L2.DpAll.int_eq : ∀ {ns : List Int} {vs : List V}, DpAll K H vs (ns.map PyData.int) → vs = ns.map V.int
  | [], _, h => by cases h; rfl
  | n :: ns, _, h => by
    cases h with
    | cons h1 h2 => cases h1; rw [h2.int_eq]; rfl
theorem _root_.L2.DpAll.bl_eq : ∀ {ns : List Bool} {vs : List V}, DpAll K H vs (ns.map PyData.bool) → vs = ns.map V.bl
  | [], _, h => by cases h; rfl
  | n :: ns, _, h => by
    cases h with
    | cons h1 h2 => cases h1; rw [h2.bl_eq]; rfl
theorem _root_.L2.Dp.isInt {i : Int} (h : Dp K H v (.int i)) : v = .int i := by cases h; rfl
theorem _root_.L2.Dp.isBl {i : Bool} (h : Dp K H v (.bool i)) : v = .bl i := by cases h; rfl
theorem _root_.L2.Dp.isStr {i : Str} (h : Dp K H v (.str i)) : v = .str i := by cases h; rfl
theorem _root_.L2.Dp.isNon (h : Dp K H v .none) : v = .non := by cases h; rfl
theorem _root_.L2.Dp.isTup (h : Dp K H v (.tuple ds)) : ∃ a xs, v = .ref a ∧ SqT K H a xs ∧ DpAll K H xs ds := by
  cases h with
  | tup hs ha => exact ⟨_, _, rfl, hs, ha⟩
theorem _root_.L2.Dp.isLst (h : Dp K H v (.list ds)) : ∃ a xs, v = .ref a ∧ SqL K H a xs ∧ DpAll K H xs ds := by
  cases h with
  | lst hs ha => exact ⟨_, _, rfl, hs, ha⟩
/-! ### what is new: its lists stand at addresses that H0 has not, none within itself -/
mutual
inductive Dn (K : Fg) : Hp → Hp → V → PyData → Prop
  | non {H0 H : Hp} : Dn K H0 H .non .none
  | bl {H0 H : Hp} (b : Bool) : Dn K H0 H (.bl b) (.bool b)
  | int {H0 H : Hp} (i : Int) : Dn K H0 H (.int i) (.int i)
  | str {H0 H : Hp} (x : Str) : Dn K H0 H (.str x) (.str x)
  | lst {H0 H : Hp} {a : Addr} {xs : List V} {ds : List PyData} : H0 a = none → H a = some (.lst xs) → DnAll K (L2.upd H0 a (.lst [])) H xs ds → Dn K H0 H (.ref a) (.list ds)
  | tup {H0 H : Hp} {a : Addr} {xs : List V} {ds : List PyData} : SqT K H a xs → DnAll K H0 H xs ds → Dn K H0 H (.ref a) (.tuple ds)
inductive DnAll (K : Fg) : Hp → Hp → List V → List PyData → Prop
  | nil {H0 H : Hp} : DnAll K H0 H [] []
  | cons {H0 H : Hp} {v : V} {vs : List V} {d : PyData} {ds : List PyData} : Dn K H0 H v d → DnAll K H0 H vs ds → DnAll K H0 H (v :: vs) (d :: ds)
end
mutual
theorem dnP : ∀ (H0 : Hp) (d : PyData) (v : V), Dn K H0 H v d → Dp K H v d
  | _, .none, _, h => by cases h; exact .non
  | _, .bool b, _, h => by cases h; exact .bl b
  | _, .int i, _, h => by cases h; exact .int i
  | _, .str x, _, h => by cases h; exact .str x
  | _, .list ds, _, h => by
    cases h with
    | lst h0 hs ha => exact .lst (SqL.of hs) (dnAllP _ ds _ ha)
  | _, .tuple ds, _, h => by
    cases h with
    | tup hs ha => exact .tup hs (dnAllP _ ds _ ha)
  | _, .dict _, _, h => by cases h
theorem dnAllP : ∀ (H0 : Hp) (ds : List PyData) (vs : List V), DnAll K H0 H vs ds → DpAll K H vs ds
  | _, [], _, h => by cases h; exact .nil
  | _, d :: ds, _, h => by
    cases h with
    | cons h1 h2 => exact .cons (dnP _ d _ h1) (dnAllP _ ds _ h2)
end
theorem Dn.dp (h : Dn K H0 H v d) : Dp K H v d := dnP _ d v h
theorem DnAll.dp (h : DnAll K H0 H vs ds) : DpAll K H vs ds := dnAllP _ ds vs h
/-- from one pair of heaps to another -/
def Mv (H0 H H0' H' : Hp) : Prop := ∀ a xs, H0 a = none → H a = some (.lst xs) → H0' a = none ∧ H' a = some (.lst xs)
theorem Mv.up {b : Addr} {o : HO} (f : Mv H0 H H0' H') : Mv (L2.upd H0 b o) H (L2.upd H0' b o) H' := fun a xs h1 h2 => by
  by_cases e : a = b
  · rw [e, upd_same] at h1; cases h1
  · rw [upd_ne e] at h1 ⊢; exact f a xs h1 h2
mutual
theorem dnMv (g : ∀ a xs, SqT K H a xs → SqT K H' a xs) : ∀ (H0 H0' : Hp) (d : PyData) (v : V), Mv H0 H H0' H' → Dn K H0 H v d → Dn K H0' H' v d
  | _, _, .none, _, f, h => by cases h; exact .non
  | _, _, .bool b, _, f, h => by cases h; exact .bl b
  | _, _, .int i, _, f, h => by cases h; exact .int i
  | _, _, .str x, _, f, h => by cases h; exact .str x
  | _, _, .list ds, _, f, h => by
    cases h with
    | lst h0 hs ha => exact .lst (f _ _ h0 hs).1 (f _ _ h0 hs).2 (dnAllMv g _ _ ds _ f.up ha)
  | _, _, .tuple ds, _, f, h => by
    cases h with
    | tup hs ha => exact .tup (g _ _ hs) (dnAllMv g _ _ ds _ f ha)
  | _, _, .dict _, _, _, h => by cases h
theorem dnAllMv (g : ∀ a xs, SqT K H a xs → SqT K H' a xs) : ∀ (H0 H0' : Hp) (ds : List PyData) (vs : List V), Mv H0 H H0' H' → DnAll K H0 H vs ds → DnAll K H0' H' vs ds
  | _, _, [], _, f, h => by cases h; exact .nil
  | _, _, d :: ds, _, f, h => by
    cases h with
    | cons h1 h2 => exact .cons (dnMv g _ _ d _ f h1) (dnAllMv g _ _ ds _ f h2)
end
theorem Dn.mv (g : ∀ a xs, SqT K H a xs → SqT K H' a xs) (f : Mv H0 H H0' H') (h : Dn K H0 H v d) : Dn K H0' H' v d := dnMv g _ _ d v f h
theorem DnAll.mv (g : ∀ a xs, SqT K H a xs → SqT K H' a xs) (f : Mv H0 H H0' H') (h : DnAll K H0 H vs ds) : DnAll K H0' H' vs ds := dnAllMv g _ _ ds vs f h
theorem Dn.mono (s : Same H H') (h : Dn K H0 H v d) : Dn K H0 H' v d := h.mv (fun _ _ a => Same.tupT s a) fun _ _ a b => ⟨a, s _ _ b⟩
theorem DnAll.mono (s : Same H H') (h : DnAll K H0 H vs ds) : DnAll K H0 H' vs ds := h.mv (fun _ _ a => Same.tupT s a) fun _ _ a b => ⟨a, s _ _ b⟩
theorem Dn.anti' (f : ∀ a, H0 a = none → H0' a = none) (h : Dn K H0 H v d) : Dn K H0' H v d := h.mv (fun _ _ a => a) fun a _ z b => ⟨f a z, b⟩
theorem DnAll.anti' (f : ∀ a, H0 a = none → H0' a = none) (h : DnAll K H0 H vs ds) : DnAll K H0' H vs ds := h.mv (fun _ _ a => a) fun a _ z b => ⟨f a z, b⟩
theorem Dn.anti (s : Same H0' H0) (h : Dn K H0 H v d) : Dn K H0' H v d := h.anti' fun _ => s.free
theorem DnAll.anti (s : Same H0' H0) (h : DnAll K H0 H vs ds) : DnAll K H0' H vs ds := h.anti' fun _ => s.free
theorem sqT_upd {a p : Addr} {xs ys : List V} {o : HO} (hp : H p = some (.lst ys)) (h : SqT K H a xs) : SqT K (upd H p o) a xs := by
  rcases h with (h | ⟨o', h⟩) | h
  · exact .inl (.inl (by rw [upd_ne (ne_of h hp (by intro z; cases z))]; exact h))
  · exact .inl (.inr ⟨o', by rw [upd_ne (ne_of h hp (by intro z; cases z))]; exact h⟩)
  · exact .inr h
/-- an old list changes: what is new stays -/
theorem Dn.upd {p : Addr} {o o0 : HO} {ys : List V} (hp : H p = some (.lst ys)) (h0 : H0 p = some o0) (h : Dn K H0 H v d) : Dn K H0 (L2.upd H p o) v d :=
  h.mv (fun _ _ a => sqT_upd hp a) fun a xs z1 z2 => ⟨z1, by rw [upd_ne (fun e => by rw [e, h0] at z1; cases z1)]; exact z2⟩
theorem DnAll.upd {p : Addr} {o o0 : HO} {ys : List V} (hp : H p = some (.lst ys)) (h0 : H0 p = some o0) (h : DnAll K H0 H vs ds) : DnAll K H0 (L2.upd H p o) vs ds :=
  h.mv (fun _ _ a => sqT_upd hp a) fun a xs z1 z2 => ⟨z1, by rw [upd_ne (fun e => by rw [e, h0] at z1; cases z1)]; exact z2⟩
/-- a new address beside -/
theorem DnAll.fresh {p : Addr} {o o' : HO} (hp : H p = none) (h : DnAll K H0 H vs ds) : DnAll K (L2.upd H0 p o) (L2.upd H p o') vs ds :=
  h.mv (fun _ _ a => Same.tupT (same_new hp) a) fun a xs z1 z2 => by
    have e : a ≠ p := ne_of_none z2 hp
    rw [upd_ne e, upd_ne e]; exact ⟨z1, z2⟩
theorem DnAll.app : ∀ {ds es : List PyData} {vs us : List V}, DnAll K H0 H vs ds → DnAll K H0 H us es → DnAll K H0 H (vs ++ us) (ds ++ es)
  | [], _, _, _, h, g => by cases h; exact g
  | _ :: _, _, _, _, h, g => by
    cases h with
    | cons h1 h2 => exact .cons h1 (h2.app g)
theorem DnAll.one (h : Dn K H0 H v d) : DnAll K H0 H [v] [d] := .cons h .nil
theorem DnAll.len (h : DnAll K H0 H vs ds) : vs.length = ds.length := h.dp.len
theorem DnAll.at : ∀ {ds : List PyData} {vs : List V} {i : Nat} {d : PyData}, DnAll K H0 H vs ds → ds[i]? = some d → ∃ v, vs[i]? = some v ∧ Dn K H0 H v d
  | _ :: _, _, 0, _, h, e => by
    cases h with
    | cons h1 h2 => simp at e; subst e; exact ⟨_, rfl, h1⟩
  | _ :: _, _, i + 1, _, h, e => by
    cases h with
    | cons h1 h2 => simp at e; simpa using h2.at e
theorem DnAll.setAt : ∀ {ds : List PyData} {vs : List V} {i : Nat} {v : V} {d : PyData}, DnAll K H0 H vs ds → Dn K H0 H v d → DnAll K H0 H (vs.set i v) (ds.set i d)
  | [], _, _, _, _, h, _ => by cases h; exact .nil
  | _ :: _, _, 0, _, _, h, g => by
    cases h with
    | cons h1 h2 => exact .cons g h2
  | _ :: _, _, i + 1, _, _, h, g => by
    cases h with
    | cons h1 h2 => exact .cons h1 (h2.setAt g)
theorem DnAll.ints {ns : List Int} : DnAll K H0 H (ns.map V.int) (ns.map PyData.int) := by
  induction ns with
  | nil => exact .nil
  | cons n ns ih => exact .cons (.int n) ih
/-! ### no lists in it: flat -/
mutual
def flatD : PyData → Bool
  | .none => true
  | .bool _ => true
  | .int _ => true
  | .str _ => true
  | .list _ => false
  | .tuple ds => flatDs ds
  | .dict _ => false
def flatDs : List PyData → Bool
  | [] => true
  | d :: ds => flatD d && flatDs ds
end
mutual
theorem dpN (g : ∀ a xs, SqT K H a xs → SqT K H' a xs) : ∀ (d : PyData) (v : V), flatD d = true → Dp K H v d → Dn K H0 H' v d
  | .none, _, _, h => by cases h; exact .non
  | .bool b, _, _, h => by cases h; exact .bl b
  | .int i, _, _, h => by cases h; exact .int i
  | .str x, _, _, h => by cases h; exact .str x
  | .list ds, _, f, h => by cases f
  | .tuple ds, _, f, h => by
    cases h with
    | tup hs ha => exact .tup (g _ _ hs) (dpAllN g ds _ f ha)
  | .dict _, _, _, h => by cases h
theorem dpAllN (g : ∀ a xs, SqT K H a xs → SqT K H' a xs) : ∀ (ds : List PyData) (vs : List V), flatDs ds = true → DpAll K H vs ds → DnAll K H0 H' vs ds
  | [], _, _, h => by cases h; exact .nil
  | d :: ds, _, f, h => by
    have f' := Bool.and_eq_true_iff.mp (show (flatD d && flatDs ds) = true from f)
    cases h with
    | cons h1 h2 => exact .cons (dpN g d _ f'.1 h1) (dpAllN g ds _ f'.2 h2)
end
theorem _root_.L2.Dp.dn (f : flatD d = true) (h : Dp K H v d) : Dn K H0 H v d := dpN (fun _ _ z => z) d v f h
theorem _root_.L2.DpAll.dn (f : flatDs ds = true) (h : DpAll K H vs ds) : DnAll K H0 H vs ds := dpAllN (fun _ _ z => z) ds vs f h
/-- flat data stays where a list changes -/
theorem _root_.L2.Dp.flatUpd {p : Addr} {o : HO} {ys : List V} (f : flatD d = true) (hp : H p = some (.lst ys)) (h : Dp K H v d) : Dp K (L2.upd H p o) v d := (dpN (H0 := H) (fun _ _ a => sqT_upd hp a) d v f h).dp
/-! ### a heap without one address -/
def hid (p : Addr) (H : Hp) : Hp := fun b => if b = p then none else H b
theorem hid_same {p : Addr} : Same (hid p H) H := fun b o e => by
  unfold hid at e; split at e
  · cases e
  · exact e
theorem hid_self {p : Addr} : hid p H p = none := by unfold hid; rw [if_pos rfl]
theorem hid_ne {p b : Addr} (h : b ≠ p) : hid p H b = H b := by unfold hid; rw [if_neg h]
theorem hid_upd {p : Addr} {o : HO} : Same (hid p H) (upd H p o) := fun b x e => by
  unfold hid at e; split at e
  · cases e
  · rw [upd_ne (by assumption)]; exact e
theorem same_hid {p : Addr} (s : Same H0 H) (h : H0 p = none) : Same H0 (hid p H) := fun b x e => by
  rw [hid_ne (ne_of_none e h)]; exact s _ _ e
theorem sqT_hid {a p : Addr} {xs ys : List V} (hp : H p = some (.lst ys)) (h : SqT K H a xs) : SqT K (hid p H) a xs := by
  rcases h with (h | ⟨o', h⟩) | h
  · exact .inl (.inl (by rw [hid_ne (ne_of h hp (by intro z; cases z))]; exact h))
  · exact .inl (.inr ⟨o', by rw [hid_ne (ne_of h hp (by intro z; cases z))]; exact h⟩)
  · exact .inr h
theorem _root_.L2.Dp.flatHid {p : Addr} {ys : List V} (f : flatD d = true) (hp : H p = some (.lst ys)) (h : Dp K H v d) : Dp K (hid p H) v d := (dpN (H0 := H) (fun _ _ a => sqT_hid hp a) d v f h).dp
end
/-! ### readings as data -/
/-- the expression gives d, whatever has come beside -/
def Ez (K : Fg) (t : TE) (σ : L2.St) (H : Hp) (d : PyData) : Prop := ∀ H1, Same H H1 → ∀ Q : VK, (∀ v H2, Same H1 H2 → Dp K H2 v d → Q v H2) → t σ H1 Q
/-- .. and its lists are new -/
def En (K : Fg) (t : TE) (σ : L2.St) (H : Hp) (d : PyData) : Prop := ∀ H1, Same H H1 → ∀ Q : VK, (∀ v H2, Same H1 H2 → Dn K H1 H2 v d → Q v H2) → t σ H1 Q
def Tz (t : TT) (σ : L2.St) (H : Hp) (b : Bool) : Prop := ∀ H1, Same H H1 → ∀ Q : Bool → Hp → Prop, (∀ H2, Same H1 H2 → Q b H2) → t σ H1 Q
def Az (K : Fg) (t : TA) (σ : L2.St) (H : Hp) (ds : List PyData) : Prop := ∀ H1, Same H H1 → ∀ Q : List V → Hp → Prop, (∀ vs H2, Same H1 H2 → DpAll K H2 vs ds → Q vs H2) → t σ H1 Q
def An (K : Fg) (t : TA) (σ : L2.St) (H : Hp) (ds : List PyData) : Prop := ∀ H1, Same H H1 → ∀ Q : List V → Hp → Prop, (∀ vs H2, Same H1 H2 → DnAll K H1 H2 vs ds → Q vs H2) → t σ H1 Q
section
variable {K : Fg} {σ : L2.St} {H H' : Hp} {d e : PyData} {ds : List PyData} {t ta tb : TE} {tr : TA} {b c : Bool} {tt tu : TT}
theorem En.ez (h : En K t σ H d) : Ez K t σ H d := fun H1 s Q q => h H1 s Q fun v H2 s2 dn => q v H2 s2 dn.dp
theorem Ez.en (h : Ez K t σ H d) (f : flatD d = true := by rfl) : En K t σ H d := fun H1 s Q q => h H1 s Q fun v H2 s2 dp => q v H2 s2 (Dp.dn f dp)
theorem Ez.mono (h : Ez K t σ H d) (s : Same H H') : Ez K t σ H' d := fun H1 s1 => h H1 (s.trans s1)
theorem En.mono (h : En K t σ H d) (s : Same H H') : En K t σ H' d := fun H1 s1 => h H1 (s.trans s1)
theorem Tz.mono (h : Tz tt σ H b) (s : Same H H') : Tz tt σ H' b := fun H1 s1 => h H1 (s.trans s1)
theorem Az.mono (h : Az K tr σ H ds) (s : Same H H') : Az K tr σ H' ds := fun H1 s1 => h H1 (s.trans s1)
theorem An.az (h : An K tr σ H ds) : Az K tr σ H ds := fun H1 s Q q => h H1 s Q fun v H2 s2 dn => q v H2 s2 dn.dp
theorem z_var {i : Nat} {v : V} (e : σ[i]? = some (some v)) (h : Dp K H v d) : Ez K (tVar i) σ H d := fun H1 s Q q => ⟨v, e, q v H1 (Same.refl _) (Dp.mono s h)⟩
theorem z_int {i : Int} : Ez K (tC (.int i)) σ H (.int i) := fun H1 s Q q => q _ H1 (Same.refl _) (.int i)
theorem z_bl {i : Bool} : Ez K (tC (.bl i)) σ H (.bool i) := fun H1 s Q q => q _ H1 (Same.refl _) (.bl i)
theorem z_str {i : Str} : Ez K (tC (.str i)) σ H (.str i) := fun H1 s Q q => q _ H1 (Same.refl _) (.str i)
theorem z_non : Ez K (tC .non) σ H .none := fun H1 s Q q => q _ H1 (Same.refl _) .non
/-- two operands -/
theorem z_op {r : R2} (ha : Ez K ta σ H d) (hb : Ez K tb σ H e) {f : PyData} (h : ∀ x y H1, Same H H1 → Dp K H1 x d → Dp K H1 y e → ∀ Q : VK, (∀ v H2, Same H1 H2 → Dp K H2 v f → Q v H2) → r x y H1 Q) : Ez K (tOp r ta tb) σ H f := fun H1 s Q q =>
  ha H1 s _ fun x H2 s2 dx => hb H2 (s.trans s2) _ fun y H3 s3 dy => h x y H3 ((s.trans s2).trans s3) (Dp.mono s3 dx) dy Q fun v H4 s4 dv => q v H4 ((s2.trans s3).trans s4) dv
theorem n_op {r : R2} (ha : Ez K ta σ H d) (hb : Ez K tb σ H e) {f : PyData} (h : ∀ x y H1, Same H H1 → Dp K H1 x d → Dp K H1 y e → ∀ Q : VK, (∀ v H2, Same H1 H2 → Dn K H1 H2 v f → Q v H2) → r x y H1 Q) : En K (tOp r ta tb) σ H f := fun H1 s Q q =>
  ha H1 s _ fun x H2 s2 dx => hb H2 (s.trans s2) _ fun y H3 s3 dy => h x y H3 ((s.trans s2).trans s3) (Dp.mono s3 dx) dy Q fun v H4 s4 dv => q v H4 ((s2.trans s3).trans s4) (Dn.anti (s2.trans s3) dv)
theorem z_int0 {g : Int → Int → V} {i j : Int} {f : PyData} (ha : Ez K ta σ H (.int i)) (hb : Ez K tb σ H (.int j)) (hf : ∀ H, Dp K H (g i j) f) : Ez K (tOp (rI0 g) ta tb) σ H f := z_op ha hb fun x y H1 s dx dy Q q => by
  cases dx; cases dy; exact ⟨i, j, rfl, rfl, q _ H1 (Same.refl _) (hf _)⟩
theorem z_add {i j : Int} (ha : Ez K ta σ H (.int i)) (hb : Ez K tb σ H (.int j)) : Ez K (tOp (rI0 fun i j => .int (i + j)) ta tb) σ H (.int (i + j)) := z_int0 ha hb fun _ => .int _
theorem z_sub {i j : Int} (ha : Ez K ta σ H (.int i)) (hb : Ez K tb σ H (.int j)) : Ez K (tOp (rI0 fun i j => .int (i - j)) ta tb) σ H (.int (i - j)) := z_int0 ha hb fun _ => .int _
theorem z_cmp {i j : Int} {p : Int → Int → Bool} (ha : Ez K ta σ H (.int i)) (hb : Ez K tb σ H (.int j)) : Ez K (tOp (rI0 fun i j => .bl (p i j)) ta tb) σ H (.bool (p i j)) := z_int0 ha hb fun _ => .bl _
theorem z_intC {C : Int → Int → Prop} {g : Int → Int → Int} {i j : Int} (ha : Ez K ta σ H (.int i)) (hb : Ez K tb σ H (.int j)) (hc : C i j) : Ez K (tOp (rI C fun i j => .int (g i j)) ta tb) σ H (.int (g i j)) := z_op ha hb fun x y H1 s dx dy Q q => by
  cases dx; cases dy; exact ⟨i, j, rfl, rfl, hc, q _ H1 (Same.refl _) (.int _)⟩
/-- a subscript -/
theorem atI_of {xs : List V} {i : Nat} {v : V} (h : xs[i]? = some v) : atI xs (i : Int) = some v := atI_nat h
theorem z_ixT {i : Nat} (ha : Ez K ta σ H (.tuple ds)) (hb : Ez K tb σ H (.int i)) (hd : ds[i]? = some d) : Ez K (tOp (rIx K) ta tb) σ H d := z_op ha hb fun x y H1 s dx dy Q q => by
  obtain ⟨a, xs, rfl, hs, hx⟩ := dx.isTup
  cases dy
  obtain ⟨v, hv, dv⟩ := hx.at hd
  exact .inr (.inl ⟨a, xs, i, v, rfl, rfl, hs, atI_of hv, q v H1 (Same.refl _) dv⟩)
theorem z_ixL {i : Nat} (ha : Ez K ta σ H (.list ds)) (hb : Ez K tb σ H (.int i)) (hd : ds[i]? = some d) : Ez K (tOp (rIx K) ta tb) σ H d := z_op ha hb fun x y H1 s dx dy Q q => by
  obtain ⟨a, xs, rfl, hs, hx⟩ := dx.isLst
  cases dy
  obtain ⟨v, hv, dv⟩ := hx.at hd
  exact .inl ⟨a, xs, i, v, rfl, rfl, hs, atI_of hv, q v H1 (Same.refl _) dv⟩
/-- arguments -/
theorem a_nil : Az K tNil σ H [] := fun H1 s Q q => q [] H1 (Same.refl _) .nil
theorem a_cons (ha : Ez K ta σ H d) (hr : Az K tr σ H ds) : Az K (tCons ta tr) σ H (d :: ds) := fun H1 s Q q =>
  ha H1 s _ fun x H2 s2 dx => hr H2 (s.trans s2) _ fun xs H3 s3 dxs => q (x :: xs) H3 (s2.trans s3) (.cons (Dp.mono s3 dx) dxs)
theorem an_nil : An K tNil σ H [] := fun H1 s Q q => q [] H1 (Same.refl _) .nil
theorem an_cons (ha : En K ta σ H d) (hr : An K tr σ H ds) : An K (tCons ta tr) σ H (d :: ds) := fun H1 s Q q =>
  ha H1 s _ fun x H2 s2 dx => hr H2 (s.trans s2) _ fun xs H3 s3 dxs => q (x :: xs) H3 (s2.trans s3) (.cons (Dn.mono s3 dx) (DnAll.anti s2 dxs))
theorem a_one (ha : Ez K ta σ H d) : Az K (tCons ta tNil) σ H [d] := a_cons ha a_nil
/-- a tuple -/
theorem n_tup (h : An K tr σ H ds) (hl : ds.length ≤ 1000 := by simp) : En K (tTup tr) σ H (.tuple ds) := fun H1 s Q q =>
  h H1 s _ fun xs H2 s2 dx => ⟨by rw [dx.len]; exact Nat.le_trans hl (by decide), fun p np => q _ _ (s2.trans (same_new np)) (.tup (SqT.of upd_same) (DnAll.mono (same_new np) dx))⟩
theorem z_tup (h : Az K tr σ H ds) (hl : ds.length ≤ 1000 := by simp) : Ez K (tTup tr) σ H (.tuple ds) := fun H1 s Q q =>
  h H1 s _ fun xs H2 s2 dx => ⟨by rw [dx.len]; exact Nat.le_trans hl (by decide), fun p np => q _ _ (s2.trans (same_new np)) (.tup (SqT.of upd_same) (DpAll.mono (same_new np) dx))⟩
theorem n_lst (h : An K tr σ H ds) (hl : ds.length ≤ 1000 := by simp) : En K (tLst tr) σ H (.list ds) := fun H1 s Q q =>
  h H1 s _ fun xs H2 s2 dx => ⟨by rw [dx.len]; exact Nat.le_trans hl (by decide), fun p np => q _ _ (s2.trans (same_new np)) (.lst (s2.free np) upd_same (DnAll.fresh np dx))⟩
theorem z_lst (h : Az K tr σ H ds) (hl : ds.length ≤ 1000 := by simp) : Ez K (tLst tr) σ H (.list ds) := fun H1 s Q q =>
  h H1 s _ fun xs H2 s2 dx => ⟨by rw [dx.len]; exact Nat.le_trans hl (by decide), fun p np => q _ _ (s2.trans (same_new np)) (.lst (SqL.of upd_same) (DpAll.mono (same_new np) dx))⟩
/-! ### tests -/
theorem t_val (h : Ez K t σ H (.bool b)) : Tz (tB t) σ H b := fun H1 s Q q => h H1 s _ fun v H2 s2 dv => by cases dv; exact ⟨b, rfl, q H2 s2⟩
theorem t_not (h : Tz tt σ H b) : Tz (tNot tt) σ H (!b) := fun H1 s Q q => h H1 s _ fun H2 s2 => q H2 s2
theorem t_and (h : Tz tt σ H b) (g : b = true → Tz tu σ H c) : Tz (tAnd tt tu) σ H (b && c) := fun H1 s Q q => h H1 s _ fun H2 s2 => by
  cases b with
  | false => exact q H2 s2
  | true => exact g rfl H2 (s.trans s2) _ fun H3 s3 => q H3 (s2.trans s3)
theorem t_or (h : Tz tt σ H b) (g : b = false → Tz tu σ H c) : Tz (tOr tt tu) σ H (b || c) := fun H1 s Q q => h H1 s _ fun H2 s2 => by
  cases b with
  | true => exact q H2 s2
  | false => exact g rfl H2 (s.trans s2) _ fun H3 s3 => q H3 (s2.trans s3)
theorem z_andV (ha : Ez K ta σ H (.bool b)) (hb : b = true → Ez K tb σ H (.bool c)) : Ez K (tAndV ta tb) σ H (.bool (b && c)) := fun H1 s Q q => ha H1 s _ fun v H2 s2 dv => by
  cases dv
  refine ⟨b, rfl, ?_⟩
  cases b with
  | false => exact q _ H2 s2 (.bl _)
  | true => exact hb rfl H2 (s.trans s2) _ fun v H3 s3 => q v H3 (s2.trans s3)
theorem z_orV (ha : Ez K ta σ H (.bool b)) (hb : b = false → Ez K tb σ H (.bool c)) : Ez K (tOrV ta tb) σ H (.bool (b || c)) := fun H1 s Q q => ha H1 s _ fun v H2 s2 dv => by
  cases dv
  refine ⟨b, rfl, ?_⟩
  cases b with
  | true => exact q _ H2 s2 (.bl _)
  | false => exact hb rfl H2 (s.trans s2) _ fun v H3 s3 => q v H3 (s2.trans s3)
theorem z_notV (ha : Ez K ta σ H (.bool b)) : Ez K (tNotV ta) σ H (.bool (!b)) := fun H1 s Q q => ha H1 s _ fun v H2 s2 dv => by
  cases dv; exact ⟨b, rfl, q _ H2 s2 (.bl _)⟩
/-! ### promises: arguments and answer as data -/
def spD (K : Fg) (P : List PyData → PyData → Prop) : Sp := fun vs H Q _ => ∃ ds r, DpAll K H vs ds ∧ P ds r ∧ ∀ v H', Same H H' → Dn K H H' v r → Q v H'
theorem n_call {P : List PyData → PyData → Prop} {E : XK} {r : PyData} (ha : Az K tr σ H ds) (hp : P ds r) : En K (tCall (spD K P) [] E tr) σ H r := fun H1 s Q q =>
  ha H1 s _ fun vs H2 s2 dv => ⟨ds, r, by rw [List.append_nil]; exact dv, hp, fun v H3 s3 dn => q v H3 (s2.trans s3) (Dn.anti s2 dn)⟩
theorem z_call {P : List PyData → PyData → Prop} {E : XK} {r : PyData} (ha : Az K tr σ H ds) (hp : P ds r) : Ez K (tCall (spD K P) [] E tr) σ H r := (n_call ha hp).ez
/-- a built-in -/
theorem z_cb {r : List V → Hp → VK → Prop} {f : PyData} (ha : Az K tr σ H ds) (h : ∀ vs H1, Same H H1 → DpAll K H1 vs ds → ∀ Q : VK, (∀ v H2, Same H1 H2 → Dp K H2 v f → Q v H2) → r vs H1 Q) : Ez K (tCB r tr) σ H f := fun H1 s Q q =>
  ha H1 s _ fun vs H2 s2 dv => h vs H2 (s.trans s2) dv Q fun v H3 s3 dp => q v H3 (s2.trans s3) dp
theorem n_cb {r : List V → Hp → VK → Prop} {f : PyData} (ha : Az K tr σ H ds) (h : ∀ vs H1, Same H H1 → DpAll K H1 vs ds → ∀ Q : VK, (∀ v H2, Same H1 H2 → Dn K H1 H2 v f → Q v H2) → r vs H1 Q) : En K (tCB r tr) σ H f := fun H1 s Q q =>
  ha H1 s _ fun vs H2 s2 dv => h vs H2 (s.trans s2) dv Q fun v H3 s3 dp => q v H3 (s2.trans s3) (Dn.anti s2 dp)
/-! ### statements -/
variable {D : Ends} {rest t1 t2 : TS}
theorem s_set {i : Nat} (h : Ez K t σ H d) (k : ∀ v H', Same H H' → Dp K H' v d → rest D (σ.set i (some v)) H') : tSeq (tAsg t (gName i)) rest D σ H := h H (Same.refl _) _ fun v H2 s2 dv => k v H2 s2 dv
theorem s_setN {i : Nat} (h : En K t σ H d) (k : ∀ v H', Same H H' → Dn K H H' v d → rest D (σ.set i (some v)) H') : tSeq (tAsg t (gName i)) rest D σ H := h H (Same.refl _) _ fun v H2 s2 dv => k v H2 s2 dv
theorem s_ret (h : En K t σ H d) (k : ∀ v H', Same H H' → Dn K H H' v d → D.rt v H') : tRet t D σ H := h H (Same.refl _) _ fun v H2 s2 dv => k v H2 s2 dv
theorem s_if {b : Bool} (h : Tz tt σ H b) (k1 : b = true → ∀ H', Same H H' → t1 { D with nx := rest D } σ H') (k2 : b = false → ∀ H', Same H H' → t2 { D with nx := rest D } σ H') : tSeq (tIfS tt t1 t2) rest D σ H := h H (Same.refl _) _ fun H2 s2 => by
  cases b with
  | true => exact k1 rfl H2 s2
  | false => exact k2 rfl H2 s2
theorem s_if1 {b : Bool} (h : Tz tt σ H b) (k1 : b = true → ∀ H', Same H H' → t1 D σ H') (k2 : b = false → ∀ H', Same H H' → t2 D σ H') : tIfS tt t1 t2 D σ H := h H (Same.refl _) _ fun H2 s2 => by
  cases b with
  | true => exact k1 rfl H2 s2
  | false => exact k2 rfl H2 s2
/-- a test that guards a raise (or an early return) and isn't met -/
theorem s_pass (h : Tz tt σ H false) (k : ∀ H', Same H H' → rest D σ H') : tSeq (tIfS tt t1 tNext) rest D σ H := h H (Same.refl _) _ fun H2 s2 => k H2 s2
theorem s_pass1 (h : Tz tt σ H false) (k : ∀ H', Same H H' → D.nx σ H') : tIfS tt t1 tNext D σ H := h H (Same.refl _) _ fun H2 s2 => k H2 s2
theorem s_expr (h : Ez K t σ H d) (k : ∀ H', Same H H' → rest D σ H') : tSeq (tDrop t) rest D σ H := h H (Same.refl _) _ fun v H2 s2 dv => k H2 s2
end
end Ck
end

section
set_option Elab.async false
set_option linter.all false
set_option maxRecDepth 100000
set_option maxHeartbeats 2000000
/-! Rules that the layer has not: great powers, quotients by great divisors, lcm, zip of a tuple and a list, lists added where one is the script; the text's defs. -/
namespace Ck
open PySem PySem.Spec PyProof.Rows L2
section
variable {X : Cx}
/-- a * b: below 2 ^ 27 bits together, or one of them short -/
theorem op_mulX : OpR X (binaryOp .Mult) (rI IntMulOk fun i j => .int (i * j)) := opI fun _ _ _ _ _ _ _ hc q => mul_int q hc
def CDivX (_ j : Int) : Prop := j ≠ 0 ∧ j.natAbs.log2 < 9000
theorem op_fdivX : OpR X (binaryOp .FloorDiv) (rI CDivX fun i j => .int (i.fdiv j)) := opI fun _ _ _ _ _ _ _ hc q => floordiv_int hc.1 q (.inl (PyProof.noPylong_of_log2 hc.2))
def CPowX (i j : Int) : Prop := 0 ≤ j ∧ (Builtin.Int.intBits i : Int) * j ≤ 2 ^ 27
theorem op_powX : OpR X (binaryOp .Pow) (rI CPowX fun i j => .int (i ^ j.toNat)) := opI fun _ _ _ _ _ _ _ hc q => pow_int hc.1 hc.2 q
/-- math.lcm of what is not great -/
theorem log2_lt {n k : Nat} (hk : 0 < k) (h : n < 2 ^ k) : n.log2 < k := by
  by_cases h0 : n = 0
  · subst h0; rw [Nat.log2_zero]; exact hk
  · exact (Nat.log2_lt h0).mpr h
def rLcmX : List V → Hp → VK → Prop := fun vs H Q => ∃ a b : Int, vs = [.int a, .int b] ∧ a.natAbs < 2 ^ 13000 ∧ b.natAbs < 2 ^ 13000 ∧ Q (.int ((Nat.lcm a.natAbs b.natAbs : Nat) : Int)) H
theorem cr_lcmX : CallR X (.builtin "math.lcm") rLcmX := by
  intro pins s σ H vs us Q I r h
  obtain ⟨a, b, rfl, ha, hb, q⟩ := h
  obtain ⟨t, u, rfl⟩ := Vals.int2 r
  have e1 : Nat.lcm 1 a.natAbs = a.natAbs := Nat.lcm_one_left _
  have l1 : (max 1 a.natAbs).log2 < 13000 := log2_lt (by decide) (by
    have : 1 < 2 ^ 13000 := Nat.one_lt_two_pow (by decide)
    omega)
  have l2 : (max a.natAbs b.natAbs).log2 < 13000 := log2_lt (by decide) (by omega)
  have l3 : (Nat.lcm a.natAbs b.natAbs).log2 < 26000 := log2_lt (by decide) (by
    have h1 : Nat.lcm a.natAbs b.natAbs ≤ a.natAbs * b.natAbs := by
      unfold Nat.lcm; exact Nat.div_le_self _ _
    have h2 : a.natAbs * b.natAbs < 2 ^ 13000 * 2 ^ 13000 := Nat.mul_lt_mul'' ha hb
    rw [← Nat.pow_add] at h2
    omega)
  have hsz : ((((Nat.lcm 1 a.natAbs).lcm b.natAbs : Nat) : Int)).natAbs.log2 < bitsLine := by
    rw [e1, Int.natAbs_natCast]
    have : bitsLine = 134217728 := by decide
    omega
  have g := PySem.W.mg_run_lcm a t b u (by omega) (by omega) hsz
  rw [e1] at g
  exact call_function_meets PySem.W.MGF.kind_lcm PySem.W.MGF.plain_lcm PySem.W.MGF.entry_lcm (PySem.W.MGF.args_lcm _ _) g.meets ⟨.int _, H, I.tok _, ⟨_, rfl⟩, q⟩
/-- len of a list, a tuple, a text -/
def rLenX (K : Fg) : List V → Hp → VK → Prop := fun xs H Q => (∃ p ys, xs = [.ref p] ∧ (SqL K H p ys ∨ SqT K H p ys) ∧ Q (.int ys.length) H) ∨ ∃ z, xs = [.str z] ∧ z.length ≤ sizeLine ∧ Q (.int z.length) H
theorem call_lenX : CallR X (.builtin "len") (rLenX X.K) := CallR.or call_len_seq call_len_str
/-- lists that are read, added -/
def rCatX (K : Fg) : R2 := fun x y H Q => ∃ l b xs zs, x = .ref l ∧ y = .ref b ∧ SqL K H l xs ∧ SqL K H b zs ∧ xs.length + zs.length ≤ sizeLine ∧ ∀ p, H p = none → Q (.ref p) (upd H p (.lst (xs ++ zs)))

theorem op_catX : OpR X (binaryOp .Add) (rCatX X.K) := by
  intro pins s σ H x y v u Q I rx ry h
  obtain ⟨l, b, xs, zs, rfl, rfl, hH, hB, hz, q⟩ := h
  cases rx
  cases ry
  obtain ⟨its, r, p, hl⟩ := I.list hH
  obtain ⟨its2, r2, p2, hl2⟩ := I.list hB
  have e1 := r.length
  have e2 := r2.length
  obtain ⟨⟨cls, dd, data, sl⟩, n, ho, hc, hd0, hd⟩ := id p
  obtain ⟨⟨cls2, dd2, data2, sl2⟩, n2, ho2, hc2, hd02, hd2⟩ := id p2
  simp only at hc hd hc2 hd2
  subst hc hd hc2 hd2
  have e : its.toArray ++ its2.toArray = (its ++ its2).toArray := by simp
  refine concat_meets ⟨_, ho, rfl⟩ ⟨_, ho2, rfl⟩ noFill_list_add seq_list_add PySem.F.slot_list_add PySem.F.entry_list_add (PySem.F.args_list_add_2 _ _) (list_addW l b its.toArray its2.toArray n n2 dd dd2 sl sl2 (by simp only [List.size_toArray]; omega)) ⟨ho, ho2, ?_⟩
  rw [e]
  exact ⟨.ref _, _, I.lnew (t' := s.toks) (r.append r2) (by rw [List.length_append]; omega), rfl, q _ I.fresh⟩
end
/-! ### zip of a tuple and a list -/
def ItzM (K : Fg) (a b : Addr) : It :=
  ⟨fun i H => ∃ (xs ys : List V) (x y : V), SqT K H a xs ∧ SqL K H b ys ∧ xs[i]? = some x ∧ ys[i]? = some y,
    fun i H v H' => ∃ T x y, v = .ref T ∧ H T = none ∧ H' = upd H T (.tup [x, y]) ∧ (∀ xs, SqT K H a xs → xs[i]? = some x) ∧ ∀ ys, SqL K H b ys → ys[i]? = some y,
    fun i H => ∃ xs ys : List V, SqT K H a xs ∧ SqL K H b ys ∧ i ≤ xs.length ∧ i ≤ ys.length ∧ (i = xs.length ∨ i = ys.length)⟩
theorem turn_zipM {P : Program} {w : World} {K : Fg} {elts : List Expr} {kk : Nat} {tpos : Pos} {a b z TI TO i1 i2 : Addr} (D : ZipSep2 z TI TO i1 i2 [i1, a] [i2, b]) :
    Turn P w K (.Tuple elts kk tpos) (ItzM K a b) [z, TI, TO, i1, i2] z (fun i h => IsZip h z TI TO .none ∧ IsTupOf2 h TI (.ref i1) (.ref i2) ∧ (∃ x y, IsTupOf2 h TO x y) ∧ h.IsTupleIter i1 a i ∧ h.IsListIter i2 b i) where
  mem := by simp
  obj := fun i h st c hc => by
    obtain ⟨hz, hTI, ⟨x, y, hTO⟩, ⟨o1, e1, _, d1⟩, ⟨o2, e2, _, d2⟩⟩ := st
    have e' : c = z ∨ c = TI ∨ c = TO ∨ c = i1 ∨ c = i2 := by simpa using hc
    rcases e' with q | q | q | q | q
    · rw [q]; exact ⟨_, hz, fun v q => nomatch q⟩
    · rw [q]; exact ⟨_, hTI, fun v q => nomatch q⟩
    · rw [q]; exact ⟨_, hTO, fun v q => nomatch q⟩
    · rw [q]; exact ⟨o1, e1, fun v q => by rw [d1] at q; cases q⟩
    · rw [q]; exact ⟨o2, e2, fun v q => by rw [d2] at q; cases q⟩
  keep := fun i h h' st k => by
    obtain ⟨hz, hTI, ⟨x, y, hTO⟩, h1, h2⟩ := st
    exact ⟨k z (by simp) _ hz, k TI (by simp) _ hTI, ⟨x, y, k TO (by simp) _ hTO⟩, h1.at fun o q => k i1 (by simp) o q, h2.at fun o q => k i2 (by simp) o q⟩
  item := by
    intro X hP hw hK hc i pins s σ H E I hf st hg
    subst hP hw hK
    obtain ⟨hz, hTI, ⟨x0, y0, hTO⟩, h1, h2⟩ := st
    obtain ⟨xs, ys, x, y, hqx, hqy, hx, hy⟩ := hg
    obtain ⟨its, rv, p, _⟩ := I.tuple hqx
    obtain ⟨its2, rv2, p2, _⟩ := I.list hqy
    obtain ⟨u, hu, ru⟩ := rv.get hx
    obtain ⟨u2, hu2, ru2⟩ := rv2.get hy
    have hzl : z < s.heap.objs.size := Heap.lt_size hz
    have ne1 : a ≠ i1 := fun e => by
      have := D.zf1; have hh := D.sep2_1
      obtain ⟨o1, e1, c1, _⟩ := h1
      obtain ⟨o, ho, hcl, _⟩ := id p
      rw [e] at ho; rw [ho] at e1; cases e1; rw [hcl] at c1; exact absurd (Value.type.inj c1) (by decide)
    have ne2 : b ≠ i2 := fun e => by
      obtain ⟨o1, e1, c1, _⟩ := h2
      obtain ⟨o, ho, hcl, _⟩ := id p2.isList
      rw [e] at ho; rw [ho] at e1; cases e1; rw [hcl] at c1; exact absurd (Value.type.inj c1) (by decide)
    have hh : X.A.in1.handled = none := I.ok.hd hc
    have lt1 : i < its.toArray.size := by
      rw [List.size_toArray]; exact (List.getElem?_eq_some_iff.mp hu).1
    have lt2 : i < its2.toArray.size := by
      rw [List.size_toArray]; exact (List.getElem?_eq_some_iff.mp hu2).1
    refine wpAny_pyNext_zipD2_item D (Draws.tuple hh i1 a ne1 its.toArray) (Draws.list hh i2 b ne2 its2.toArray) hz hTI hTO ⟨h1, p⟩ ⟨h2, p2.isList⟩ lt1 lt2 fun w1 w2 h' tk g1 g2 z' TO' n1 n2 hT hsz hk => ?_
    have ew1 : w1 = u := Option.some.inj (g1.symm.trans (by simpa using hu))
    have ew2 : w2 = u2 := Option.some.inj (g2.symm.trans (by simpa using hu2))
    subst ew1 ew2
    refine ⟨_, rfl, wpAny_letOwnedTupleGo_zip (s := { s with heap := h', toks := tk }) z' fun h'' z'' sb => ?_⟩
    have hT2 : h''.get? s.heap.objs.size = some { cls := .type "tuple", data := .seq #[w1, w2] } := (sb.2 _ (Nat.ne_of_gt hzl)).trans hT
    have new : ObjOk X.prog X.w (upd H s.heap.objs.size (.tup [x, y])) h'' s.heap.objs.size (.tup [x, y]) :=
      ⟨by show 2 ≤ sizeLine; decide, [w1, w2], .cons ru (.cons ru2 .nil), ⟨_, hT2, rfl, _, rfl⟩⟩
    have I1 : Inv X pins σ (upd H s.heap.objs.size (.tup [x, y])) { s with heap := h'', toks := tk } :=
      I.turnedNew (t' := tk) (ch := [z, TI, TO, i1, i2]) (fun c o hb q => (sb.2 c (fun q' => hb (by simp [q']))).trans (hk c o (fun q' => hb (by simp [q'])) (fun q' => hb (by simp [q'])) (fun q' => hb (by simp [q'])) (fun q' => hb (by simp [q'])) q)) hf (Nat.le_refl _) new
    have i1z : i1 ≠ z := fun e => D.zf1 (by simp [e])
    have i2z : i2 ≠ z := fun e => D.zf2 (by simp [e])
    refine ⟨.ref s.heap.objs.size, _, I1, rfl, ⟨_, x, y, rfl, I.hok.fresh (Nat.le_refl _), rfl, fun l hl => by rw [I.tuple_inj hl hqx]; exact hx, fun l hl => by rw [I.list_inj hl hqy]; exact hy⟩, ⟨z'', ?_, ⟨w1, w2, ?_⟩, ?_, ?_⟩, fun c hcm => ?_⟩
    · exact (sb.2 _ D.TIz).trans (hk _ _ D.TIz D.TITO D.TIi1 D.TIi2 hTI)
    · exact (sb.2 _ D.TOz).trans TO'
    · exact n1.1.at fun o q => (sb.2 _ i1z).trans q
    · exact n2.1.at fun o q => (sb.2 _ i2z).trans q
    · have hlt : c < s.heap.objs.size := by
        have e' : c = z ∨ c = TI ∨ c = TO ∨ c = i1 ∨ c = i2 := by simpa using hcm
        rcases e' with q | q | q | q | q
        · rw [q]; exact hzl
        · rw [q]; exact Heap.lt_size hTI
        · rw [q]; exact Heap.lt_size hTO
        · rw [q]; obtain ⟨_, e1, _⟩ := h1; exact Heap.lt_size e1
        · rw [q]; obtain ⟨_, e2, _⟩ := h2; exact Heap.lt_size e2
      rw [upd_ne (Nat.ne_of_lt hlt)]
      exact (hf c hcm).1
  done := by
    intro X hP hw hK hc i pins s σ H E I hf st hg
    subst hP hw hK
    obtain ⟨hz, hTI, ⟨x0, y0, hTO⟩, h1, h2⟩ := st
    obtain ⟨xs, ys, hqx, hqy, l1, l2, he⟩ := hg
    obtain ⟨its, rv, p, _⟩ := I.tuple hqx
    obtain ⟨its2, rv2, p2, _⟩ := I.list hqy
    have e1 := rv.length
    have e2 := rv2.length
    have ne1 : a ≠ i1 := fun e => by
      obtain ⟨o1, e1, c1, _⟩ := h1
      obtain ⟨o, ho, hcl, _⟩ := id p
      rw [e] at ho; rw [ho] at e1; cases e1; rw [hcl] at c1; exact absurd (Value.type.inj c1) (by decide)
    have ne2 : b ≠ i2 := fun e => by
      obtain ⟨o1, e1, c1, _⟩ := h2
      obtain ⟨o, ho, hcl, _⟩ := id p2.isList
      rw [e] at ho; rw [ho] at e1; cases e1; rw [hcl] at c1; exact absurd (Value.type.inj c1) (by decide)
    have hh : X.A.in1.handled = none := I.ok.hd hc
    refine wpAny_pyNext_zipD2_end D (Draws.tuple hh i1 a ne1 its.toArray) (Draws.list hh i2 b ne2 its2.toArray) hz hTI hTO ⟨h1, p⟩ ⟨h2, p2.isList⟩ (by simp; omega) (by simp; omega) (by simp; omega) fun h' tk hk => ⟨rfl, I.turnedL (t' := tk) (ch := [z, TI, TO, i1, i2]) (fun c o hb q =>
      hk c o (fun q' => hb (by simp [q'])) (fun q' => hb (by simp [q'])) (fun q' => hb (by simp [q'])) (fun q' => hb (by simp [q'])) q) hf⟩
  self := fun A i s Q E st h => wpAny_pyIter_zip st.1 h
def iZipX (K : Fg) (ta : TA) : TI := fun σ H R => ta σ H fun vs H1 => ∃ a b xs ys, vs = [.ref a, .ref b] ∧ ((SqL K H1 a xs ∧ SqL K H1 b ys ∧ R (Itz K a b) H1) ∨ (SqT K H1 a xs ∧ SqT K H1 b ys ∧ R (RZ.ItzT K a b) H1) ∨ (SqT K H1 a xs ∧ SqL K H1 b ys ∧ R (ItzM K a b) H1))
theorem pi_zipX {X : Cx} {e e2 : Expr} {ta : TA} {p pos tpos : Pos} {elts : List Expr} {kk : Nat} (hg : Gl X "zip") (hm : X.mg "zip" = none) (ha : PA X [e, e2] ta)
    (hs : starEach [e, e2] X.env = (false, eval e X.env) :: starEach [e2] X.env := by rfl) (hpl : (backTo pos (starEach [e2] X.env)).any (·.1) = false := by rfl) :
    PI X (.Tuple elts kk tpos) (.Call (.Name "zip" p) [e, e2] [] pos) (iZipX X.K ta) := by
  refine ⟨fun pins s σ H R I h => ?_⟩
  refine Call_ (ld_blt I hg hm PyProof.Rows.boot_zip (PyProof.Rows.callWith_type1 (thn (ha.run pos pins s σ H _ I h) fun us s1 ⟨vs, H1, I1, r1, q1⟩ => ?_) hs hpl))
  obtain ⟨a, b, xs, ys, ex, q1⟩ := q1
  subst ex
  cases r1 with
  | cons r rr =>
    cases rr with
    | cons r' rr =>
      cases rr
      cases r
      cases r'
      have fresh5 : ∀ c, c ∈ [s1.heap.objs.size + 4, s1.heap.objs.size + 2, s1.heap.objs.size + 3, s1.heap.objs.size, s1.heap.objs.size + 1] → FpOk X pins H1 c := fun c hcm => by
        have e' : c = s1.heap.objs.size + 4 ∨ c = s1.heap.objs.size + 2 ∨ c = s1.heap.objs.size + 3 ∨ c = s1.heap.objs.size ∨ c = s1.heap.objs.size + 1 := by simpa using hcm
        have hle : s1.heap.objs.size ≤ c := by
          rcases e' with z | z | z | z | z
          · rw [z]; exact Nat.le_add_right _ _
          · rw [z]; exact Nat.le_add_right _ _
          · rw [z]; exact Nat.le_add_right _ _
          · rw [z]; exact Nat.le_refl _
          · rw [z]; exact Nat.le_add_right _ _
        exact I1.fpOk hle (I1.hok.fresh hle)
      rcases q1 with ⟨hqx, hqy, q⟩ | ⟨hqx, hqy, q⟩ | ⟨hqx, hqy, q⟩
      · obtain ⟨its, rv, p1, _⟩ := I1.list hqx
        obtain ⟨its2, rv2, p2, _⟩ := I1.list hqy
        refine call_zip_2 p1.isList p2.isList fun h' hz hTI hTO h1 h2 hsz hk => wpAny_pyIter_zip hz ?_
        have I2 : Inv X pins σ H1 { s1 with heap := h' } := I1.kept (t' := s1.toks) hk
        exact ⟨s1.heap.objs.size + 4, [s1.heap.objs.size + 4, s1.heap.objs.size + 2, s1.heap.objs.size + 3, s1.heap.objs.size, s1.heap.objs.size + 1], _, _, H1, rfl, I2, turn_zip (PySem.W.ktu_apart s1.heap.objs.size a b p1.lt p2.lt), ⟨hz, hTI, ⟨_, _, hTO⟩, h1, h2⟩, fresh5, q⟩
      · obtain ⟨its, rv, p1, _⟩ := I1.tuple hqx
        obtain ⟨its2, rv2, p2, _⟩ := I1.tuple hqy
        obtain ⟨o1, ho1, _⟩ := id p1
        obtain ⟨o2, ho2, _⟩ := id p2
        refine RZ.call_zipT (show s1.heap.IsTuple a its.toArray from p1) (show s1.heap.IsTuple b its2.toArray from p2) fun h' hz hTI hTO h1 h2 hsz hk => wpAny_pyIter_zip hz ?_
        have I2 : Inv X pins σ H1 { s1 with heap := h' } := I1.kept (t' := s1.toks) hk
        exact ⟨s1.heap.objs.size + 4, [s1.heap.objs.size + 4, s1.heap.objs.size + 2, s1.heap.objs.size + 3, s1.heap.objs.size, s1.heap.objs.size + 1], _, _, H1, rfl, I2, RZ.turn_zipT (PySem.W.ktu_apart s1.heap.objs.size a b (Heap.lt_size ho1) (Heap.lt_size ho2)), ⟨hz, hTI, ⟨_, _, hTO⟩, h1, h2⟩, fresh5, q⟩
      · obtain ⟨its, rv, p1, _⟩ := I1.tuple hqx
        obtain ⟨its2, rv2, p2, _⟩ := I1.list hqy
        obtain ⟨o1, ho1, _⟩ := id p1
        obtain ⟨o2, ho2, _⟩ := id p2.isList
        have la : a < s1.heap.objs.size := Heap.lt_size ho1
        have lb : b < s1.heap.objs.size := Heap.lt_size ho2
        refine zip_begins2 (begins_tuple a its.toArray) (begins_list b its2.toArray) p1 p2.isList fun h' hz hTI hTO h1 h2 hsz hk => wpAny_pyIter_zip hz ?_
        have I2 : Inv X pins σ H1 { s1 with heap := h' } := I1.kept (t' := s1.toks) hk
        have S : ZipSep2 (s1.heap.objs.size + 4) (s1.heap.objs.size + 2) (s1.heap.objs.size + 3) s1.heap.objs.size (s1.heap.objs.size + 1) [s1.heap.objs.size, a] [s1.heap.objs.size + 1, b] :=
          zip_sep2 (fp1 := [a]) (fp2 := [b]) (fun c hc => by simp at hc; rw [hc]; exact la) (fun c hc => by simp at hc; rw [hc]; exact lb)
        exact ⟨s1.heap.objs.size + 4, [s1.heap.objs.size + 4, s1.heap.objs.size + 2, s1.heap.objs.size + 3, s1.heap.objs.size, s1.heap.objs.size + 1], _, _, H1, rfl, I2, turn_zipM S, ⟨hz, hTI, ⟨_, _, hTO⟩, ⟨_, h1, rfl, rfl⟩, ⟨_, h2, rfl, rfl⟩⟩, fresh5, q⟩
theorem walk_zipT {K : Fg} {a b : Addr} {xs ys : List V} {n : Nat} (hn : n = min xs.length ys.length) : Walk (RZ.ItzT K a b) n (fun H => SqT K H a xs ∧ SqT K H b ys) (YPair (fun i => xs[i]?) (fun i => ys[i]?)) := by
  subst hn
  refine ⟨fun i _ hi q => ?_, fun _ q => ⟨xs, ys, q.1, q.2, by omega⟩, fun i H v H' _ q y => ?_⟩
  · have h1 : i < xs.length := by omega
    have h2 : i < ys.length := by omega
    exact ⟨xs, ys, xs[i], ys[i], q.1, q.2, by simp [h1], by simp [h2]⟩
  · obtain ⟨T, x, z, h1, h2, h3, h4, h5⟩ := y
    exact ⟨T, x, z, h1, h2, h3, h4 xs q.1, h5 ys q.2⟩
theorem walk_zipM {K : Fg} {a b : Addr} {xs ys : List V} {n : Nat} (hn : n = min xs.length ys.length) : Walk (ItzM K a b) n (fun H => SqT K H a xs ∧ SqL K H b ys) (YPair (fun i => xs[i]?) (fun i => ys[i]?)) := by
  subst hn
  refine ⟨fun i _ hi q => ?_, fun _ q => ⟨xs, ys, q.1, q.2, by omega, by omega, by omega⟩, fun i H v H' _ q y => ?_⟩
  · have h1 : i < xs.length := by omega
    have h2 : i < ys.length := by omega
    exact ⟨xs, ys, xs[i], ys[i], q.1, q.2, by simp [h1], by simp [h2]⟩
  · obtain ⟨T, x, z, h1, h2, h3, h4, h5⟩ := y
    exact ⟨T, x, z, h1, h2, h3, h4 xs q.1, h5 ys q.2⟩
/-- a list or a tuple, walked -/
def iSeq (K : Fg) (tl : TE) : TI := fun σ H R => tl σ H fun x H1 => ∃ a, x = .ref a ∧ (((∃ xs, SqL K H1 a xs) ∧ R (Itl K a) H1) ∨ ((∃ xs, SqT K H1 a xs) ∧ R (Itt K a) H1))
theorem pi_seq {X : Cx} {tg l : Expr} {tl : TE} (hl : PE X l tl) : PI X tg l (iSeq X.K tl) := by
  refine ⟨fun pins s σ H R I h => ?_⟩
  refine thn (hl.run pins s σ H _ I h) fun v s1 ⟨x, H1, I1, r1, q1⟩ => ?_
  obtain ⟨a, e, q⟩ := q1
  subst e
  cases r1
  rcases q with ⟨⟨xs, hq⟩, q⟩ | ⟨⟨xs, hq⟩, q⟩
  · obtain ⟨its, rv, p, hz⟩ := I1.list hq
    refine wpAny_pyIter_list p.isList ?_
    refine ⟨s1.heap.objs.size, [s1.heap.objs.size], _, _, H1, rfl, I1.kept (t' := s1.toks) fun b o e => Heap.get?_push_of_some _ e, turn_list a _, ⟨_, Heap.get?_push_size _ rfl, rfl, rfl⟩, fun b hb => ?_, q⟩
    have e : b = s1.heap.objs.size := by simpa using hb
    subst e
    exact I1.fpOk (Nat.le_refl _) (I1.hok.fresh (Nat.le_refl _))
  · obtain ⟨its, rv, p, hz⟩ := I1.tuple hq
    refine wpAny_pyIter_tuple (show s1.heap.IsTuple a its.toArray from p) ?_
    refine ⟨s1.heap.objs.size, [s1.heap.objs.size], _, _, H1, rfl, I1.kept (t' := s1.toks) fun b o e => Heap.get?_push_of_some _ e, turn_tuple a _, ⟨_, Heap.get?_push_size _ rfl, rfl, rfl⟩, fun b hb => ?_, q⟩
    have e : b = s1.heap.objs.size := by simpa using hb
    subst e
    exact I1.fpOk (Nat.le_refl _) (I1.hok.fresh (Nat.le_refl _))
/-! ### the same, the written part told -/
section
variable {X : Cx}
def rListOf (K : Fg) : List V → Hp → VK → Prop := fun xs H Q => ∃ p ys, xs = [.ref p] ∧ (SqL K H p ys ∨ SqT K H p ys) ∧ ∀ l, H l = none → Q (.ref l) (upd H l (.lst ys))
def rTupleOf (K : Fg) : List V → Hp → VK → Prop := fun xs H Q => ∃ p ys, xs = [.ref p] ∧ ((SqL K H p ys ∧ ∀ l, H l = none → Q (.ref l) (upd H l (.tup ys))) ∨ (SqT K H p ys ∧ Q (.ref p) H))
theorem ix_seqK (K : Fg) (h : X.K = K := by rfl) : IxR X (rIx K) := by subst h; exact ix_seq
theorem call_lenK (K : Fg) (h : X.K = K := by rfl) : CallR X (.builtin "len") (rLenX K) := by subst h; exact call_lenX
theorem call_listK (K : Fg) (h : X.K = K := by rfl) : CallR X (.type "list") (rListOf K) := by subst h; exact call_list_of
theorem call_tupleK (K : Fg) (h : X.K = K := by rfl) : CallR X (.type "tuple") (rTupleOf K) := by subst h; exact call_tuple_of
theorem op_eqK (K : Fg) (hu : X.A.units + 64 < cLine) (h : X.K = K := by rfl) : OpR X (compareOp .Eq) (rEqD K) := by subst h; exact op_eqD hu
theorem op_neK (K : Fg) (hu : X.A.units + 64 < cLine) (h : X.K = K := by rfl) : OpR X (compareOp .NotEq) (rNeD K) := by subst h; exact op_neD hu
theorem op_inK (K : Fg) (h : X.K = K := by rfl) : OpR X (compareOp .In) (rIn K false) := by subst h; exact op_in_seq
theorem op_notInK (K : Fg) (h : X.K = K := by rfl) : OpR X (compareOp .NotIn) (rIn K true) := by subst h; exact op_notIn_seq
theorem op_catK (K : Fg) (h : X.K = K := by rfl) : OpR X (binaryOp .Add) (rCatX K) := by subst h; exact op_catX
theorem cr_sumK (K : Fg) (hc : X.calm = true) (h : X.K = K := by rfl) : CallR X (.builtin "sum") (rSum K) := by subst h; exact cr_sum hc
theorem cr_maxK (K : Fg) (hc : X.calm = true) (h : X.K = K := by rfl) : CallR X (.builtin "max") (rMax K) := by subst h; exact cr_max hc
theorem cr_allK (K : Fg) (hc : X.calm = true) (h : X.K = K := by rfl) : CallR X (.builtin "all") (rAll K) := by subst h; exact cr_all hc
theorem cr_sortedK (K : Fg) (h : X.K = K := by rfl) : CallR X (.builtin "sorted") (rSorted K) := by subst h; exact cr_sorted
theorem call_isiQ (K : Fg) (h : X.K = K := by rfl) : CallR X (.builtin "isinstance") (rIsi K) := by subst h; exact call_isi
theorem call_isiTQ (K : Fg) (h : X.K = K := by rfl) : CallR X (.builtin "isinstance") (rIsiT K) := by subst h; exact call_isiT
theorem sl_listK (K : Fg) (h : X.K = K := by rfl) : SlR X (rSlL K) := by subst h; exact sl_list
theorem pi_listK (K : Fg) {tg l : Expr} {tl : TE} (hl : PE X l tl) (h : X.K = K := by rfl) : PI X tg l (iList K tl) := by subst h; exact pi_list hl
theorem pi_tupK (K : Fg) {tg l : Expr} {tl : TE} (hl : PE X l tl) (h : X.K = K := by rfl) : PI X tg l (iTup K tl) := by subst h; exact pi_tup hl
theorem pi_seqK (K : Fg) {tg l : Expr} {tl : TE} (hl : PE X l tl) (h : X.K = K := by rfl) : PI X tg l (iSeq K tl) := by subst h; exact pi_seq hl
theorem pi_zipK (K : Fg) {e e2 : Expr} {ta : TA} {p pos tpos : Pos} {elts : List Expr} {kk : Nat} (hg : Gl X "zip") (hm : X.mg "zip" = none) (ha : PA X [e, e2] ta) (h : X.K = K := by rfl)
    (hs : starEach [e, e2] X.env = (false, eval e X.env) :: starEach [e2] X.env := by rfl) (hpl : (backTo pos (starEach [e2] X.env)).any (·.1) = false := by rfl) :
    PI X (.Tuple elts kk tpos) (.Call (.Name "zip" p) [e, e2] [] pos) (iZipX K ta) := by subst h; exact pi_zipX hg hm ha hs hpl
theorem pg_tupK (K : Fg) {pos : Pos} {es : List Expr} {k : Nat} {t : TGs} {n : Nat} (hc : X.calm = true) (h : PGs X es t) (hk : X.K = K := by rfl)
    (hn : (assignEach es X.env).length = n := by rfl) (hst : (assignEach es X.env).findIdx? (·.1) = none := by rfl) : PG X (.Tuple es k pos) (gTup K n t) := by subst hk; exact pg_tup hc h hn hst
theorem pe_appK (K : Fg) {o e : Expr} {to : TE} {t : TA} {apos cpos : Pos} (ho : PE X o to) (ha : PA X [e] t) (hk : X.K = K := by rfl)
    (hbase : attributeBase o "append" X.env (eval o X.env) = eval o X.env := by rfl)
    (hfew : ((backTo cpos (starEach [e] X.env)).all (fun x => !x.1) && (backToKw cpos (keywordEach [] X.env)).all (fun x => x.1.isSome)
      && decide ([e].length + ([] : List Keyword).length + (if ([] : List Keyword).isEmpty then 0 else 1) < 30)) = true := by rfl)
    (hline : (apos.endLine == cpos.line) = true := by rfl) (hs : starEach [e] X.env = (false, eval e X.env) :: starEach [] X.env := by rfl) (hplain : (backTo cpos (starEach [] X.env)).any (·.1) = false := by rfl) :
    PE X (.Call (.Attribute o "append" apos) [e] [] cpos) (tBM K "list" rAppend to t) := by
  subst hk
  exact pe_bm PySem.F.plainAttrs_list PySem.F.slot_list_append PySem.F.type_list_append mt_append ho ha hbase hfew hline hs hplain
end
end Ck
end

section
set_option Elab.async false
set_option linter.all false
set_option maxRecDepth 100000
set_option maxHeartbeats 2000000
/-! What is walked, comprehensions and loops, as data; the text. -/
namespace Ck
open PySem PySem.Spec PyProof.Rows L2
section
variable {K : Fg} {H H' H0 H0' H1 H2 Hb : Hp} {v : V} {vs : List V} {d e : PyData} {ds : List PyData} {σ : L2.St}
/-! ### pure readings: the value is told at the base, the heap stays -/
def Ep (K : Fg) (t : TE) (σ : L2.St) (H : Hp) (d : PyData) : Prop := ∀ H1, Same H H1 → ∀ Q : VK, (∀ v, Dp K H v d → Q v H1) → t σ H1 Q
def Ap (K : Fg) (t : TA) (σ : L2.St) (H : Hp) (ds : List PyData) : Prop := ∀ H1, Same H H1 → ∀ Q : List V → Hp → Prop, (∀ vs, DpAll K H vs ds → Q vs H1) → t σ H1 Q
variable {t ta tb te : TE} {tr : TA} {b c : Bool} {tt tu : TT}
theorem Ep.ez (h : Ep K t σ H d) : Ez K t σ H d := fun H1 s Q q => h H1 s Q fun v dv => q v H1 (Same.refl _) (L2.Dp.mono s dv)
theorem p_var {i : Nat} {v : V} (e : σ[i]? = some (some v)) (h : Dp K H v d) : Ep K (tVar i) σ H d := fun H1 s Q q => ⟨v, e, q v h⟩
theorem p_int {i : Int} : Ep K (tC (.int i)) σ H (.int i) := fun H1 s Q q => q _ (.int i)
theorem p_op {r : R2} (ha : Ep K ta σ H d) (hb : Ep K tb σ H e) {f : PyData} (h : ∀ x y H1, Same H H1 → Dp K H x d → Dp K H y e → ∀ Q : VK, (∀ v, Dp K H v f → Q v H1) → r x y H1 Q) : Ep K (tOp r ta tb) σ H f := fun H1 s Q q =>
  ha H1 s _ fun x dx => hb H1 s _ fun y dy => h x y H1 s dx dy Q q
theorem p_add {i j : Int} (ha : Ep K ta σ H (.int i)) (hb : Ep K tb σ H (.int j)) : Ep K (tOp (rI0 fun i j => .int (i + j)) ta tb) σ H (.int (i + j)) := p_op ha hb fun x y H1 s dx dy Q q => by
  cases dx; cases dy; exact ⟨i, j, rfl, rfl, q _ (.int _)⟩
theorem p_sub {i j : Int} (ha : Ep K ta σ H (.int i)) (hb : Ep K tb σ H (.int j)) : Ep K (tOp (rI0 fun i j => .int (i - j)) ta tb) σ H (.int (i - j)) := p_op ha hb fun x y H1 s dx dy Q q => by
  cases dx; cases dy; exact ⟨i, j, rfl, rfl, q _ (.int _)⟩
theorem p_ixT {i : Nat} (ha : Ep K ta σ H (.tuple ds)) (hb : Ep K tb σ H (.int i)) (hd : ds[i]? = some d) : Ep K (tOp (rIx K) ta tb) σ H d := p_op ha hb fun x y H1 s dx dy Q q => by
  obtain ⟨a, xs, rfl, hs, hx⟩ := dx.isTup
  cases dy
  obtain ⟨v, hv, dv⟩ := hx.at hd
  exact .inr (.inl ⟨a, xs, i, v, rfl, rfl, L2.Same.tupT s hs, atI_of hv, q v dv⟩)
theorem p_ixL {i : Nat} (ha : Ep K ta σ H (.list ds)) (hb : Ep K tb σ H (.int i)) (hd : ds[i]? = some d) : Ep K (tOp (rIx K) ta tb) σ H d := p_op ha hb fun x y H1 s dx dy Q q => by
  obtain ⟨a, xs, rfl, hs, hx⟩ := dx.isLst
  cases dy
  obtain ⟨v, hv, dv⟩ := hx.at hd
  exact .inl ⟨a, xs, i, v, rfl, rfl, L2.Same.seq s hs, atI_of hv, q v dv⟩
theorem ap_nil : Ap K tNil σ H [] := fun H1 s Q q => q [] .nil
theorem ap_cons (ha : Ep K ta σ H d) (hr : Ap K tr σ H ds) : Ap K (tCons ta tr) σ H (d :: ds) := fun H1 s Q q =>
  ha H1 s _ fun x dx => hr H1 s _ fun xs dxs => q (x :: xs) (.cons dx dxs)
theorem ap_one (ha : Ep K ta σ H d) : Ap K (tCons ta tNil) σ H [d] := ap_cons ha ap_nil
theorem p_cb {r : List V → Hp → VK → Prop} {f : PyData} (ha : Ap K tr σ H ds) (h : ∀ vs H1, Same H H1 → DpAll K H vs ds → ∀ Q : VK, (∀ v, Dp K H v f → Q v H1) → r vs H1 Q) : Ep K (tCB r tr) σ H f := fun H1 s Q q =>
  ha H1 s _ fun vs dv => h vs H1 s dv Q q
theorem p_lenL (ha : Ep K ta σ H (.list ds)) : Ep K (tCB (rLenX K) (tCons ta tNil)) σ H (.int ds.length) := p_cb (ap_one ha) fun vs H1 s dv Q q => by
  cases dv with
  | cons d1 d2 =>
    cases d2
    obtain ⟨a, xs, rfl, hs, hx⟩ := d1.isLst
    exact .inl ⟨a, xs, rfl, .inl (L2.Same.seq s hs), by rw [hx.len]; exact q _ (.int _)⟩
theorem p_lenT (ha : Ep K ta σ H (.tuple ds)) : Ep K (tCB (rLenX K) (tCons ta tNil)) σ H (.int ds.length) := p_cb (ap_one ha) fun vs H1 s dv Q q => by
  cases dv with
  | cons d1 d2 =>
    cases d2
    obtain ⟨a, xs, rfl, hs, hx⟩ := d1.isTup
    exact .inl ⟨a, xs, rfl, .inr (L2.Same.tupT s hs), by rw [hx.len]; exact q _ (.int _)⟩
theorem z_lenL (ha : Ez K ta σ H (.list ds)) : Ez K (tCB (rLenX K) (tCons ta tNil)) σ H (.int ds.length) := z_cb (a_one ha) fun vs H1 s dv Q q => by
  cases dv with
  | cons d1 d2 =>
    cases d2
    obtain ⟨a, xs, rfl, hs, hx⟩ := d1.isLst
    exact .inl ⟨a, xs, rfl, .inl hs, by rw [hx.len]; exact q _ _ (Same.refl _) (.int _)⟩
theorem z_lenT (ha : Ez K ta σ H (.tuple ds)) : Ez K (tCB (rLenX K) (tCons ta tNil)) σ H (.int ds.length) := z_cb (a_one ha) fun vs H1 s dv Q q => by
  cases dv with
  | cons d1 d2 =>
    cases d2
    obtain ⟨a, xs, rfl, hs, hx⟩ := d1.isTup
    exact .inl ⟨a, xs, rfl, .inr hs, by rw [hx.len]; exact q _ _ (Same.refl _) (.int _)⟩
theorem z_chain {p p' : Int → Int → Bool} {tc : TE} {i j k : Int} (ha : Ez K ta σ H (.int i)) (hb : Ez K tb σ H (.int j)) (hc : Ez K tc σ H (.int k)) : Ez K (tChain (rI0 fun i j => .bl (p i j)) (rI0 fun i j => .bl (p' i j)) ta tb tc) σ H (.bool (p i j && p' j k)) := by
  intro H1 s Q q
  refine ha H1 s _ fun x H2 s2 dx => hb H2 (s.trans s2) _ fun y H3 s3 dy => ?_
  cases dx
  cases dy
  refine ⟨i, j, rfl, rfl, p i j, rfl, ?_⟩
  cases h : p i j with
  | false => rw [h] at q; exact q _ H3 (s2.trans s3) (.bl _)
  | true =>
    rw [h] at q
    refine hc H3 ((s.trans s2).trans s3) _ fun z H4 s4 dz => ?_
    cases dz
    exact ⟨j, k, rfl, rfl, q _ H4 ((s2.trans s3).trans s4) (.bl _)⟩
/-- int(a truth value), int(an int) -/
theorem z_intB {b : Bool} (h : Ez K ta σ H (.bool b)) : Ez K (tCB (fun xs H Q => (∃ i, xs = [.int i] ∧ Q (.int i) H) ∨ ∃ k, xs = [.bl k] ∧ Q (.int (if k = true then 1 else 0)) H) (tCons ta tNil)) σ H (.int (if b = true then 1 else 0)) := z_cb (a_one h) fun vs H1 s dv Q q => by
  cases dv with
  | cons d1 d2 => cases d2; cases d1; exact .inr ⟨b, rfl, q _ _ (Same.refl _) (.int _)⟩
theorem z_intI {i : Int} (h : Ez K ta σ H (.int i)) : Ez K (tCB (fun xs H Q => (∃ i, xs = [.int i] ∧ Q (.int i) H) ∨ ∃ k, xs = [.bl k] ∧ Q (.int (if k = true then 1 else 0)) H) (tCons ta tNil)) σ H (.int i) := z_cb (a_one h) fun vs H1 s dv Q q => by
  cases dv with
  | cons d1 d2 => cases d2; cases d1; exact .inl ⟨i, rfl, q _ _ (Same.refl _) (.int _)⟩
/-! ### what is walked -/
structure Src1At (K : Fg) (J : It) (Hb : Hp) (n : Nat) (it : Nat → PyData) : Prop where
  go : ∀ H i, Same Hb H → i < n → J.go i H
  yld : ∀ H i x H', Same Hb H → i < n → J.yld i H x H' → H' = H ∧ Dp K Hb x (it i)
  stop : ∀ H, Same Hb H → J.stop n H
structure Src2At (K : Fg) (J : It) (Hb : Hp) (n : Nat) (it1 it2 : Nat → PyData) : Prop where
  go : ∀ H i, Same Hb H → i < n → J.go i H
  yld : ∀ H i v H', Same Hb H → i < n → J.yld i H v H' → ∃ T x y, v = .ref T ∧ H T = none ∧ H' = upd H T (.tup [x, y]) ∧ Dp K Hb x (it1 i) ∧ Dp K Hb y (it2 i)
  stop : ∀ H, Same Hb H → J.stop n H
/-- a source that is only read -/
def Src1 (K : Fg) (wi : TI) (σ : L2.St) (Hb : Hp) (n : Nat) (it : Nat → PyData) : Prop := ∀ H1, Same Hb H1 → ∀ R : It → Hp → Prop, (∀ J, Src1At K J Hb n it → R J H1) → wi σ H1 R
def Src2 (K : Fg) (wi : TI) (σ : L2.St) (Hb : Hp) (n : Nat) (it1 it2 : Nat → PyData) : Prop := ∀ H1, Same Hb H1 → ∀ R : It → Hp → Prop, (∀ J, Src2At K J Hb n it1 it2 → R J H1) → wi σ H1 R
/-- a source that is made -/
def SrcG (K : Fg) (wi : TI) (σ : L2.St) (H : Hp) (n : Nat) (it : Nat → PyData) : Prop := ∀ H1, Same H H1 → ∀ R : It → Hp → Prop, (∀ J H2, Same H1 H2 → Src1At K J H2 n it → R J H2) → wi σ H1 R
theorem itl_at {a : Addr} {xs : List V} (hs : SqL K Hb a xs) (hx : DpAll K Hb xs ds) : Src1At K (Itl K a) Hb ds.length fun i => ds.getD i .none :=
  ⟨fun H i s hi => ⟨xs, xs[i]'(by rw [hx.len]; exact hi), L2.Same.seq s hs, List.getElem?_eq_getElem _⟩,
   fun H i x H' s hi y => ⟨y.1, by
     have h1 := y.2 xs (L2.Same.seq s hs)
     obtain ⟨d, hd, dv⟩ := hx.at' h1
     rw [List.getD_eq_getElem?_getD, hd]; exact dv⟩,
   fun H s => ⟨xs, L2.Same.seq s hs, Nat.le_of_eq hx.len⟩⟩
theorem itt_at {a : Addr} {xs : List V} (hs : SqT K Hb a xs) (hx : DpAll K Hb xs ds) : Src1At K (Itt K a) Hb ds.length fun i => ds.getD i .none :=
  ⟨fun H i s hi => ⟨xs, xs[i]'(by rw [hx.len]; exact hi), L2.Same.tupT s hs, List.getElem?_eq_getElem _⟩,
   fun H i x H' s hi y => ⟨y.1, by
     have h1 := y.2 xs (L2.Same.tupT s hs)
     obtain ⟨d, hd, dv⟩ := hx.at' h1
     rw [List.getD_eq_getElem?_getD, hd]; exact dv⟩,
   fun H s => ⟨xs, L2.Same.tupT s hs, Nat.le_of_eq hx.len⟩⟩
theorem src_list (h : Ep K te σ Hb (.list ds)) : Src1 K (iList K te) σ Hb ds.length fun i => ds.getD i .none := fun H1 s R q => h H1 s _ fun v dv => by
  obtain ⟨a, xs, rfl, hs, hx⟩ := dv.isLst
  exact ⟨a, rfl, ⟨xs, L2.Same.seq s hs⟩, q _ (itl_at hs hx)⟩
theorem src_tup (h : Ep K te σ Hb (.tuple ds)) : Src1 K (iTup K te) σ Hb ds.length fun i => ds.getD i .none := fun H1 s R q => h H1 s _ fun v dv => by
  obtain ⟨a, xs, rfl, hs, hx⟩ := dv.isTup
  exact ⟨a, rfl, ⟨xs, L2.Same.tupT s hs⟩, q _ (itt_at hs hx)⟩
theorem src_seqL (h : Ep K te σ Hb (.list ds)) : Src1 K (iSeq K te) σ Hb ds.length fun i => ds.getD i .none := fun H1 s R q => h H1 s _ fun v dv => by
  obtain ⟨a, xs, rfl, hs, hx⟩ := dv.isLst
  exact ⟨a, rfl, .inl ⟨⟨xs, L2.Same.seq s hs⟩, q _ (itl_at hs hx)⟩⟩
theorem src_seqT (h : Ep K te σ Hb (.tuple ds)) : Src1 K (iSeq K te) σ Hb ds.length fun i => ds.getD i .none := fun H1 s R q => h H1 s _ fun v dv => by
  obtain ⟨a, xs, rfl, hs, hx⟩ := dv.isTup
  exact ⟨a, rfl, .inr ⟨⟨xs, L2.Same.tupT s hs⟩, q _ (itt_at hs hx)⟩⟩
theorem srcG_list (h : Ez K te σ H (.list ds)) : SrcG K (iList K te) σ H ds.length fun i => ds.getD i .none := fun H1 s R q => h H1 s _ fun v H2 s2 dv => by
  obtain ⟨a, xs, rfl, hs, hx⟩ := dv.isLst
  exact ⟨a, rfl, ⟨xs, hs⟩, q _ _ s2 (itl_at hs hx)⟩
theorem itr_at {lo : Int} {n : Nat} : Src1At K (Itr lo n) Hb n fun i => .int (lo + i) :=
  ⟨fun _ _ _ hi => hi, fun _ _ _ _ _ _ y => ⟨y.1, by rw [y.2]; exact .int _⟩, fun _ _ => Nat.le_refl _⟩
theorem src_r1 {n : Nat} (h : Ap K tr σ Hb [.int (n : Int)]) (hn : n ≤ 1000) : Src1 K (iRng1 tr) σ Hb n fun i => .int i := fun H1 s R q => h H1 s _ fun vs dv => by
  cases dv with
  | cons d1 d2 =>
    cases d1; cases d2
    refine ⟨n, rfl, by omega, by omega, ?_⟩
    have e := itr_at (K := K) (Hb := Hb) (lo := 0) (n := n)
    simp only [Int.zero_add] at e
    exact q _ e
theorem src_r2 {a : Int} {n : Nat} (h : Ap K tr σ Hb [.int a, .int (a + (n : Int))]) (ha : -1000 ≤ a ∧ a ≤ 1000) (hn : n ≤ 1000) : Src1 K (iRng2 tr) σ Hb n fun i => .int (a + i) := fun H1 s R q => h H1 s _ fun vs dv => by
  cases dv with
  | cons d1 d2 =>
    cases d1
    cases d2 with
    | cons d2 d3 =>
      cases d2; cases d3
      refine ⟨a, _, rfl, by omega, ?_⟩
      have e : (a + (n : Int) - a).toNat = n := by omega
      rw [e]
      exact q _ itr_at
theorem Src1.g {wi : TI} {n : Nat} {it : Nat → PyData} (h : Src1 K wi σ Hb n it) : SrcG K wi σ Hb n it := fun H1 s R q => h H1 s R fun J j => q J H1 (Same.refl _)
  ⟨fun H i s2 hi => j.go H i (s.trans s2) hi, fun H i x H' s2 hi y => ⟨(j.yld H i x H' (s.trans s2) hi y).1, L2.Dp.mono s (j.yld H i x H' (s.trans s2) hi y).2⟩, fun H s2 => j.stop H (s.trans s2)⟩
theorem src_zip {es : List PyData} (h : Ap K tr σ Hb [d, e]) (hd : d = .list ds ∧ e = .list es ∨ d = .tuple ds ∧ e = .tuple es ∨ d = .tuple ds ∧ e = .list es) (hl : ds.length = es.length) :
    Src2 K (iZipX K tr) σ Hb ds.length (fun i => ds.getD i .none) (fun i => es.getD i .none) := fun H1 s R q => h H1 s _ fun vs dv => by
  cases dv with
  | cons d1 d2 =>
    cases d2 with
    | cons d2 d3 =>
      cases d3
      have fin : ∀ {xs ys : List V}, DpAll K Hb xs ds → DpAll K Hb ys es → ∀ {i : Nat} {x y : V}, xs[i]? = some x → ys[i]? = some y → Dp K Hb x (ds.getD i .none) ∧ Dp K Hb y (es.getD i .none) := fun hx hy i x y g1 g2 => by
        obtain ⟨d, hd, dv⟩ := hx.at' g1
        obtain ⟨d', hd', dv'⟩ := hy.at' g2
        rw [List.getD_eq_getElem?_getD, hd, List.getD_eq_getElem?_getD, hd']; exact ⟨dv, dv'⟩
      rcases hd with ⟨rfl, rfl⟩ | ⟨rfl, rfl⟩ | ⟨rfl, rfl⟩
      · obtain ⟨a, xs, rfl, hs, hx⟩ := d1.isLst
        obtain ⟨b, ys, rfl, hs2, hy⟩ := d2.isLst
        have W := walk_zip (K := K) (a := a) (b := b) (xs := xs) (ys := ys) (n := ds.length) (by rw [hx.len, hy.len, ← hl, Nat.min_self])
        refine ⟨a, b, xs, ys, rfl, .inl ⟨L2.Same.seq s hs, L2.Same.seq s hs2, q _ ⟨fun H i s3 hi => W.goes i H hi ⟨L2.Same.seq s3 hs, L2.Same.seq s3 hs2⟩, fun H i v H' s3 hi y => ?_, fun H s3 => W.stops H ⟨L2.Same.seq s3 hs, L2.Same.seq s3 hs2⟩⟩⟩⟩
        obtain ⟨T, x, z, h1, h2, h3, h4, h5⟩ := W.yields i H v H' hi ⟨L2.Same.seq s3 hs, L2.Same.seq s3 hs2⟩ y
        exact ⟨T, x, z, h1, h2, h3, fin hx hy h4 h5⟩
      · obtain ⟨a, xs, rfl, hs, hx⟩ := d1.isTup
        obtain ⟨b, ys, rfl, hs2, hy⟩ := d2.isTup
        have W := walk_zipT (K := K) (a := a) (b := b) (xs := xs) (ys := ys) (n := ds.length) (by rw [hx.len, hy.len, ← hl, Nat.min_self])
        refine ⟨a, b, xs, ys, rfl, .inr (.inl ⟨L2.Same.tupT s hs, L2.Same.tupT s hs2, q _ ⟨fun H i s3 hi => W.goes i H hi ⟨L2.Same.tupT s3 hs, L2.Same.tupT s3 hs2⟩, fun H i v H' s3 hi y => ?_, fun H s3 => W.stops H ⟨L2.Same.tupT s3 hs, L2.Same.tupT s3 hs2⟩⟩⟩)⟩
        obtain ⟨T, x, z, h1, h2, h3, h4, h5⟩ := W.yields i H v H' hi ⟨L2.Same.tupT s3 hs, L2.Same.tupT s3 hs2⟩ y
        exact ⟨T, x, z, h1, h2, h3, fin hx hy h4 h5⟩
      · obtain ⟨a, xs, rfl, hs, hx⟩ := d1.isTup
        obtain ⟨b, ys, rfl, hs2, hy⟩ := d2.isLst
        have W := walk_zipM (K := K) (a := a) (b := b) (xs := xs) (ys := ys) (n := ds.length) (by rw [hx.len, hy.len, ← hl, Nat.min_self])
        refine ⟨a, b, xs, ys, rfl, .inr (.inr ⟨L2.Same.tupT s hs, L2.Same.seq s hs2, q _ ⟨fun H i s3 hi => W.goes i H hi ⟨L2.Same.tupT s3 hs, L2.Same.seq s3 hs2⟩, fun H i v H' s3 hi y => ?_, fun H s3 => W.stops H ⟨L2.Same.tupT s3 hs, L2.Same.seq s3 hs2⟩⟩⟩)⟩
        obtain ⟨T, x, z, h1, h2, h3, h4, h5⟩ := W.yields i H v H' hi ⟨L2.Same.tupT s3 hs, L2.Same.seq s3 hs2⟩ y
        exact ⟨T, x, z, h1, h2, h3, fin hx hy h4 h5⟩
/-! ### comprehensions -/
abbrev g2 (K : Fg) (j k : Nat) : TG := gTup K 2 (gCons (gName j) (gCons (gName k) gNil))
def pick (n : Nat) (p : Nat → Bool) (gd : Nat → PyData) : List PyData := ((List.range n).filter p).map gd
theorem pick_succ {n : Nat} {p : Nat → Bool} {gd : Nat → PyData} : pick (n + 1) p gd = pick n p gd ++ if p n = true then [gd n] else [] := by
  unfold pick
  rw [List.range_succ, List.filter_append, List.map_append]
  by_cases h : p n = true
  · rw [if_pos h, List.filter_cons_of_pos h]; rfl
  · rw [if_neg h, List.filter_cons_of_neg h]; rfl
theorem pick_all {n : Nat} {gd : Nat → PyData} : pick n (fun _ => true) gd = (List.range n).map gd := by
  unfold pick
  rw [List.filter_eq_self.mpr (fun _ _ => rfl)]
theorem pick_len {n : Nat} {p : Nat → Bool} {gd : Nat → PyData} : (pick n p gd).length ≤ n := by
  unfold pick
  rw [List.length_map]
  refine Nat.le_trans (List.length_filter_le _ _) ?_
  rw [List.length_range]; exact Nat.le_refl _
/-- what holds of a list that is made: its base, what its entries are new to, its entries -/
structure LcF (K : Fg) (Hb Hf : Hp) (D : Addr) (ds : List PyData) (H : Hp) : Prop where
  same : Same Hb H
  fr : ∀ a, H a = none → Hf a = none
  sub : ∀ a, Hf a = none → Hb a = none
  acc : ∃ acc, H D = some (.lst acc) ∧ DnAll K (upd Hf D (.lst [])) H acc ds
abbrev LcInv (K : Fg) (H2 : Hp) (D : Addr) (ds : List PyData) (H : Hp) : Prop := LcF K H2 H2 D ds H
variable {Hf : Hp}
theorem upd_none {H : Hp} {p a : Addr} {o : HO} (h : upd H p o a = none) : a ≠ p ∧ H a = none := by
  by_cases e : a = p
  · rw [e, upd_same] at h; cases h
  · rw [upd_ne e] at h; exact ⟨e, h⟩
theorem upd_none' {H : Hp} {p a : Addr} {o : HO} (h : a ≠ p) (g : H a = none) : upd H p o a = none := by rw [upd_ne h]; exact g
theorem LcF.start (h : H2 D = none) : LcInv K H2 D [] (upd H2 D (.lst [])) := ⟨same_new h, fun a e => (upd_none e).2, fun _ e => e, [], upd_same, .nil⟩
theorem LcF.grow {D : Addr} (hD : Hb D = none) (I : LcF K Hb Hf D ds H) (s : Same H H') (dn : Dn K H H' v d) (hl : ds.length ≤ 1000) : ∃ acc, H' D = some (.lst acc) ∧ acc.length < sizeLine ∧ LcF K Hb Hf D (ds ++ [d]) (upd H' D (.lst (acc ++ [v]))) := by
  obtain ⟨acc, h1, h2⟩ := I.acc
  have e : H' D = some (.lst acc) := s _ _ h1
  refine ⟨acc, e, by rw [h2.len]; exact Nat.lt_of_le_of_lt hl (by decide), ⟨fun b o z => ?_, fun a z => I.fr a (s.free (upd_none z).2), I.sub, acc ++ [v], upd_same, ?_⟩⟩
  · rw [upd_ne (ne_of_none z hD)]; exact s _ _ (I.same _ _ z)
  · refine DnAll.app (DnAll.upd e upd_same (DnAll.mono s h2)) (DnAll.one (Dn.anti' (fun a z => ?_) (Dn.upd e h1 dn)))
    exact upd_none' (fun q => by rw [q, h1] at z; cases z) (I.fr a z)
theorem LcF.done {D : Addr} (s : Same H1 Hb) (hD : Hb D = none) (I : LcF K Hb Hf D ds H) : Same H1 H ∧ Dn K H1 H (.ref D) (.list ds) := by
  obtain ⟨acc, h1, h2⟩ := I.acc
  refine ⟨s.trans I.same, .lst (s.free hD) h1 (DnAll.anti' (fun a z => ?_) h2)⟩
  obtain ⟨z1, z2⟩ := upd_none z
  exact upd_none' z1 (s.free (I.sub a z2))
theorem LcF.of (s : Same Hb H) (h : Dn K Hb H v (.list ds)) : ∃ m, v = .ref m ∧ Hb m = none ∧ LcInv K Hb m ds H := by
  cases h with
  | lst h0 hs ha => exact ⟨_, rfl, h0, s, fun _ => s.free, fun _ e => e, _, hs, ha⟩
theorem LcF.same' {a : Addr} (I : LcF K Hb Hf a ds H) (s : Same H H') : LcF K Hb Hf a ds H' := ⟨I.same.trans s, fun b e => I.fr b (s.free e), I.sub, let ⟨acc, h1, h2⟩ := I.acc; ⟨acc, s _ _ h1, DnAll.mono s h2⟩⟩
theorem LcF.dn {a : Addr} (hD : Hb a = none) (I : LcF K Hb Hf a ds H) : Dn K Hb H (.ref a) (.list ds) := (I.done (Same.refl _) hD).2
theorem n_lc {j : Nat} {wi : TI} {vs : List Nat} {n : Nat} {it : Nat → PyData} {p : Nat → Bool} {gd : Nat → PyData} (hs : SrcG K wi σ H n it) (hn : n ≤ 1000)
    (ht : ∀ i, i < n → ∀ x H1, Same H H1 → Dp K H1 x (it i) → Tz tt ((wipe σ vs).set j (some x)) H1 (p i))
    (he : ∀ i, i < n → p i = true → ∀ x H1, Same H H1 → Dp K H1 x (it i) → En K te ((wipe σ vs).set j (some x)) H1 (gd i))
    (hw : ∀ x : V, wipe ((wipe σ vs).set j (some x)) vs = wipe σ vs := by intro _; rfl) : En K (tLc wi (gName j) tt te vs) σ H (.list (pick n p gd)) := by
  intro H1 s Q q
  refine hs H1 s _ fun J H2 s2 sa D hD => ?_
  refine ⟨fun i m Hc => m = n - i ∧ i ≤ n ∧ LcInv K H2 D (pick i p gd) Hc, ⟨n, by simp, Nat.zero_le _, LcF.start hD⟩, ?_⟩
  rintro i m Hc ⟨rfl, hi, I⟩
  by_cases hlt : i < n
  · refine .inr ⟨sa.go Hc i I.same hlt, fun Hn => LcInv K H2 D (pick (i + 1) p gd) Hn, fun Hn z => ⟨n - (i + 1), by omega, rfl, hlt, z⟩, fun x H' y => ?_⟩
    obtain ⟨e, dx⟩ := sa.yld Hc i x H' I.same hlt y
    subst e
    have sc : Same H H' := (s.trans s2).trans I.same
    have dx' := L2.Dp.mono I.same dx
    refine ⟨hw x, ht i hlt x H' sc dx' H' (Same.refl _) _ fun H3 s3 => ?_⟩
    have hl : (pick i p gd).length ≤ 1000 := Nat.le_trans pick_len (by omega)
    have I3 : LcInv K H2 D (pick i p gd) H3 := I.same' s3
    by_cases hp : p i = true
    · rw [hp, if_pos rfl]
      refine he i hlt hp x H3 (sc.trans s3) (L2.Dp.mono s3 dx') H3 (Same.refl _) _ fun z H4 s4 dz => ?_
      have e2 : pick (i + 1) p gd = pick i p gd ++ [gd i] := by rw [pick_succ, if_pos hp]
      rw [e2]
      exact I3.grow hD s4 dz hl
    · have hp' : p i = false := by simpa using hp
      rw [hp', if_neg Bool.false_ne_true]
      have e2 : pick (i + 1) p gd = pick i p gd := by rw [pick_succ, if_neg hp, List.append_nil]
      rw [e2]
      exact I3
  · have e : i = n := by omega
    subst e
    obtain ⟨h1, h2⟩ := I.done s2 hD
    exact .inl ⟨sa.stop Hc I.same, q _ _ h1 h2⟩
theorem t_yes : Tz tYes σ H true := fun H1 s Q q => q H1 (Same.refl _)
theorem n_lcA {j : Nat} {wi : TI} {vs : List Nat} {n : Nat} {it : Nat → PyData} {gd : Nat → PyData} (hs : SrcG K wi σ H n it) (hn : n ≤ 1000)
    (he : ∀ i, i < n → ∀ x H1, Same H H1 → Dp K H1 x (it i) → En K te ((wipe σ vs).set j (some x)) H1 (gd i))
    (hw : ∀ x : V, wipe ((wipe σ vs).set j (some x)) vs = wipe σ vs := by intro _; rfl) : En K (tLc wi (gName j) tYes te vs) σ H (.list ((List.range n).map gd)) := by
  have h := n_lc (tt := tYes) (p := fun _ => true) hs hn (fun _ _ _ _ _ _ => t_yes) (fun i hi _ => he i hi) hw
  rw [pick_all] at h
  exact h
theorem g2_to {j k : Nat} {x y : V} {T : Addr} {Q : L2.St → Hp → Prop} (hT : H T = some (.tup [x, y])) (q : Q ((σ.set j (some x)).set k (some y)) H) : g2 K j k (.ref T) σ H Q :=
  ⟨T, [x, y], rfl, SqT.of hT, rfl, x, [y], rfl, y, [], rfl, rfl, q⟩
theorem n_lc2 {j k : Nat} {wi : TI} {vs : List Nat} {n : Nat} {it1 it2 : Nat → PyData} {p : Nat → Bool} {gd : Nat → PyData} (hs : Src2 K wi σ H n it1 it2) (hn : n ≤ 1000)
    (ht : ∀ i, i < n → ∀ x y H1, Same H H1 → Dp K H1 x (it1 i) → Dp K H1 y (it2 i) → Tz tt (((wipe σ vs).set j (some x)).set k (some y)) H1 (p i))
    (he : ∀ i, i < n → p i = true → ∀ x y H1, Same H H1 → Dp K H1 x (it1 i) → Dp K H1 y (it2 i) → En K te (((wipe σ vs).set j (some x)).set k (some y)) H1 (gd i))
    (hw : ∀ x y : V, wipe (((wipe σ vs).set j (some x)).set k (some y)) vs = wipe σ vs := by intro _ _; rfl) : En K (tLc wi (g2 K j k) tt te vs) σ H (.list (pick n p gd)) := by
  intro H1 s Q q
  refine hs H1 s _ fun J sa D hD => ?_
  refine ⟨fun i m Hc => m = n - i ∧ i ≤ n ∧ LcInv K H1 D (pick i p gd) Hc, ⟨n, by simp, Nat.zero_le _, LcF.start hD⟩, ?_⟩
  rintro i m Hc ⟨rfl, hi, I⟩
  by_cases hlt : i < n
  · refine .inr ⟨sa.go Hc i (s.trans I.same) hlt, fun Hn => LcInv K H1 D (pick (i + 1) p gd) Hn, fun Hn z => ⟨n - (i + 1), by omega, rfl, hlt, z⟩, fun v H' hy => ?_⟩
    obtain ⟨T, x, y, rfl, nT, rfl, dx, dy⟩ := sa.yld Hc i v H' (s.trans I.same) hlt hy
    have sT := same_new (o := .tup [x, y]) nT
    have sc : Same H (upd Hc T (.tup [x, y])) := (s.trans I.same).trans sT
    refine g2_to upd_same ⟨hw x y, ht i hlt x y _ sc (L2.Dp.mono sc dx) (L2.Dp.mono sc dy) _ (Same.refl _) _ fun H3 s3 => ?_⟩
    have hl : (pick i p gd).length ≤ 1000 := Nat.le_trans pick_len (by omega)
    have I3 : LcInv K H1 D (pick i p gd) H3 := I.same' (sT.trans s3)
    by_cases hp : p i = true
    · rw [hp, if_pos rfl]
      refine he i hlt hp x y H3 (sc.trans s3) (L2.Dp.mono (sc.trans s3) dx) (L2.Dp.mono (sc.trans s3) dy) H3 (Same.refl _) _ fun z H4 s4 dz => ?_
      have e2 : pick (i + 1) p gd = pick i p gd ++ [gd i] := by rw [pick_succ, if_pos hp]
      rw [e2]
      exact I3.grow hD s4 dz hl
    · have hp' : p i = false := by simpa using hp
      rw [hp', if_neg Bool.false_ne_true]
      have e2 : pick (i + 1) p gd = pick i p gd := by rw [pick_succ, if_neg hp, List.append_nil]
      rw [e2]
      exact I3
  · have e : i = n := by omega
    subst e
    obtain ⟨h1, h2⟩ := I.done (Same.refl _) hD
    exact .inl ⟨sa.stop Hc (s.trans I.same), q _ _ h1 h2⟩
theorem n_lc2A {j k : Nat} {wi : TI} {vs : List Nat} {n : Nat} {it1 it2 : Nat → PyData} {gd : Nat → PyData} (hs : Src2 K wi σ H n it1 it2) (hn : n ≤ 1000)
    (he : ∀ i, i < n → ∀ x y H1, Same H H1 → Dp K H1 x (it1 i) → Dp K H1 y (it2 i) → En K te (((wipe σ vs).set j (some x)).set k (some y)) H1 (gd i))
    (hw : ∀ x y : V, wipe (((wipe σ vs).set j (some x)).set k (some y)) vs = wipe σ vs := by intro _ _; rfl) : En K (tLc wi (g2 K j k) tYes te vs) σ H (.list ((List.range n).map gd)) := by
  have h := n_lc2 (tt := tYes) (p := fun _ => true) hs hn (fun _ _ _ _ _ _ _ _ => t_yes) (fun i hi _ => he i hi) hw
  rw [pick_all] at h
  exact h
/-- a tuple's entries that are pairs, walked with a target of two names -/
theorem n_lcP {j k : Nat} {wi : TI} {vs : List Nat} {n : Nat} {it1 it2 : Nat → PyData} {p : Nat → Bool} {gd : Nat → PyData} (hs : SrcG K wi σ H n fun i => .tuple [it1 i, it2 i]) (hn : n ≤ 1000)
    (ht : ∀ i, i < n → ∀ x y H1, Same H H1 → Dp K H1 x (it1 i) → Dp K H1 y (it2 i) → Tz tt (((wipe σ vs).set j (some x)).set k (some y)) H1 (p i))
    (he : ∀ i, i < n → p i = true → ∀ x y H1, Same H H1 → Dp K H1 x (it1 i) → Dp K H1 y (it2 i) → En K te (((wipe σ vs).set j (some x)).set k (some y)) H1 (gd i))
    (hw : ∀ x y : V, wipe (((wipe σ vs).set j (some x)).set k (some y)) vs = wipe σ vs := by intro _ _; rfl) : En K (tLc wi (g2 K j k) tt te vs) σ H (.list (pick n p gd)) := by
  intro H1 s Q q
  refine hs H1 s _ fun J H2 s2 sa D hD => ?_
  refine ⟨fun i m Hc => m = n - i ∧ i ≤ n ∧ LcInv K H2 D (pick i p gd) Hc, ⟨n, by simp, Nat.zero_le _, LcF.start hD⟩, ?_⟩
  rintro i m Hc ⟨rfl, hi, I⟩
  by_cases hlt : i < n
  · refine .inr ⟨sa.go Hc i I.same hlt, fun Hn => LcInv K H2 D (pick (i + 1) p gd) Hn, fun Hn z => ⟨n - (i + 1), by omega, rfl, hlt, z⟩, fun v H' y => ?_⟩
    obtain ⟨e, dx⟩ := sa.yld Hc i v H' I.same hlt y
    subst e
    have sc : Same H H' := (s.trans s2).trans I.same
    obtain ⟨T, xs, rfl, hT, hx⟩ := (L2.Dp.mono I.same dx).isTup
    cases hx with
    | cons d1 d2 =>
      cases d2 with
      | cons d2 d3 =>
        cases d3
        refine ⟨T, _, rfl, hT, rfl, _, _, rfl, _, [], rfl, rfl, ?_⟩
        refine ⟨hw _ _, ht i hlt _ _ H' sc d1 d2 H' (Same.refl _) _ fun H3 s3 => ?_⟩
        have hl : (pick i p gd).length ≤ 1000 := Nat.le_trans pick_len (by omega)
        have I3 : LcInv K H2 D (pick i p gd) H3 := I.same' s3
        by_cases hp : p i = true
        · rw [hp, if_pos rfl]
          refine he i hlt hp _ _ H3 (sc.trans s3) (L2.Dp.mono s3 d1) (L2.Dp.mono s3 d2) H3 (Same.refl _) _ fun z H4 s4 dz => ?_
          have e2 : pick (i + 1) p gd = pick i p gd ++ [gd i] := by rw [pick_succ, if_pos hp]
          rw [e2]
          exact I3.grow hD s4 dz hl
        · have hp' : p i = false := by simpa using hp
          rw [hp', if_neg Bool.false_ne_true]
          have e2 : pick (i + 1) p gd = pick i p gd := by rw [pick_succ, if_neg hp, List.append_nil]
          rw [e2]
          exact I3
  · have e : i = n := by omega
    subst e
    obtain ⟨h1, h2⟩ := I.done s2 hD
    exact .inl ⟨sa.stop Hc I.same, q _ _ h1 h2⟩
/-! ### loops -/
variable {D : Ends} {rest tbo : TS} {wi : TI}
/-- at the heap as it is; what it gives is told at a base -/
def SrcH (K : Fg) (wi : TI) (σ : L2.St) (H Hb : Hp) (n : Nat) (it : Nat → PyData) : Prop := ∀ R : It → Hp → Prop, (∀ J, Src1At K J Hb n it → R J H) → wi σ H R
theorem Src1.h {n : Nat} {it : Nat → PyData} (hs : Src1 K wi σ Hb n it) (hb : Same Hb H) : SrcH K wi σ H Hb n it := fun R q => hs H hb R q
theorem srcH_r1 {n : Nat} (h : Ap K tr σ H [.int (n : Int)]) (hn : n ≤ 1000) : SrcH K (iRng1 tr) σ H Hb n fun i => .int i := fun R q => h H (Same.refl _) _ fun vs dv => by
  cases dv with
  | cons d1 d2 =>
    cases d1; cases d2
    refine ⟨n, rfl, by omega, by omega, ?_⟩
    have e := itr_at (K := K) (Hb := Hb) (lo := 0) (n := n)
    simp only [Int.zero_add] at e
    exact q _ e
theorem srcH_r2 {a : Int} {n : Nat} (h : Ap K tr σ H [.int a, .int (a + (n : Int))]) (ha : -1000 ≤ a ∧ a ≤ 1000) (hn : n ≤ 1000) : SrcH K (iRng2 tr) σ H Hb n fun i => .int (a + i) := fun R q => h H (Same.refl _) _ fun vs dv => by
  cases dv with
  | cons d1 d2 =>
    cases d1
    cases d2 with
    | cons d2 d3 =>
      cases d2; cases d3
      refine ⟨a, _, rfl, by omega, ?_⟩
      have e : (a + (n : Int) - a).toNat = n := by omega
      rw [e]
      exact q _ itr_at
theorem s_forH {j : Nat} {n : Nat} {it : Nat → PyData} (Pv : Nat → L2.St → Hp → Prop) (hs : SrcH K wi σ H Hb n it) (h0 : Pv 0 σ H) (hG : ∀ i σ' H', Pv i σ' H' → Same Hb H')
    (step : ∀ i σ' H', i < n → Pv i σ' H' → ∀ x, Dp K Hb x (it i) → tbo { nx := Pv (i + 1), rt := D.rt, ct := Pv (i + 1), bk := D.nx } (σ'.set j (some x)) H') (done : ∀ σ' H', Pv n σ' H' → D.nx σ' H') : tFor wi (gName j) tbo D σ H := by
  refine hs _ fun J sa => ?_
  refine ⟨fun i m σ' H' => m = n - i ∧ i ≤ n ∧ Pv i σ' H', ⟨n, by simp, Nat.zero_le _, h0⟩, ?_⟩
  rintro i m σ' H' ⟨rfl, hi, I⟩
  have g := hG i σ' H' I
  by_cases hlt : i < n
  · refine .inr ⟨sa.go H' i g hlt, Pv (i + 1), fun σ2 H2 z => ⟨n - (i + 1), by omega, rfl, hlt, z⟩, fun x H2 y => ?_⟩
    obtain ⟨e, dx⟩ := sa.yld H' i x H2 g hlt y
    subst e
    exact step i σ' H2 hlt I x dx
  · have e : i = n := by omega
    subst e
    exact .inl ⟨sa.stop H' g, done σ' H' I⟩
theorem s_forHS {j : Nat} {n : Nat} {it : Nat → PyData} (Pv : Nat → L2.St → Hp → Prop) (hs : SrcH K wi σ H Hb n it) (h0 : Pv 0 σ H) (hG : ∀ i σ' H', Pv i σ' H' → Same Hb H')
    (step : ∀ i σ' H', i < n → Pv i σ' H' → ∀ x, Dp K Hb x (it i) → tbo { nx := Pv (i + 1), rt := D.rt, ct := Pv (i + 1), bk := rest D } (σ'.set j (some x)) H') (done : ∀ σ' H', Pv n σ' H' → rest D σ' H') : tSeq (tFor wi (gName j) tbo) rest D σ H :=
  s_forH (D := { D with nx := rest D }) Pv hs h0 hG step done
theorem s_for {j : Nat} {n : Nat} {it : Nat → PyData} (hs : Src1 K wi σ Hb n it) (hb : Same Hb H) (Pv : Nat → L2.St → Hp → Prop) (h0 : Pv 0 σ H) (hG : ∀ i σ' H', Pv i σ' H' → Same Hb H')
    (step : ∀ i σ' H', i < n → Pv i σ' H' → ∀ x, Dp K Hb x (it i) → tbo { nx := Pv (i + 1), rt := D.rt, ct := Pv (i + 1), bk := D.nx } (σ'.set j (some x)) H') (done : ∀ σ' H', Pv n σ' H' → D.nx σ' H') : tFor wi (gName j) tbo D σ H :=
  s_forH Pv (hs.h hb) h0 hG step done
theorem s_forS {j : Nat} {n : Nat} {it : Nat → PyData} (Pv : Nat → L2.St → Hp → Prop) (hs : Src1 K wi σ Hb n it) (hb : Same Hb H) (h0 : Pv 0 σ H) (hG : ∀ i σ' H', Pv i σ' H' → Same Hb H')
    (step : ∀ i σ' H', i < n → Pv i σ' H' → ∀ x, Dp K Hb x (it i) → tbo { nx := Pv (i + 1), rt := D.rt, ct := Pv (i + 1), bk := rest D } (σ'.set j (some x)) H') (done : ∀ σ' H', Pv n σ' H' → rest D σ' H') : tSeq (tFor wi (gName j) tbo) rest D σ H :=
  s_for (D := { D with nx := rest D }) hs hb Pv h0 hG step done
theorem z_varP {i : Nat} {v : V} (e : σ[i]? = some (some v)) (h : Dp K H v d) : Ep K (tVar i) σ H d := p_var e h
theorem s_for2 {j k : Nat} {n : Nat} {it1 it2 : Nat → PyData} (hs : Src2 K wi σ Hb n it1 it2) (hb : Same Hb H) (Pv : Nat → L2.St → Hp → Prop) (h0 : Pv 0 σ H) (hG : ∀ i σ' H', Pv i σ' H' → Same Hb H')
    (step : ∀ i σ' H', i < n → Pv i σ' H' → ∀ x y H2, Same H' H2 → Dp K Hb x (it1 i) → Dp K Hb y (it2 i) → tbo { nx := Pv (i + 1), rt := D.rt, ct := Pv (i + 1), bk := D.nx } ((σ'.set j (some x)).set k (some y)) H2) (done : ∀ σ' H', Pv n σ' H' → D.nx σ' H') : tFor wi (g2 K j k) tbo D σ H := by
  refine hs H hb _ fun J sa => ?_
  refine ⟨fun i m σ' H' => m = n - i ∧ i ≤ n ∧ Pv i σ' H', ⟨n, by simp, Nat.zero_le _, h0⟩, ?_⟩
  rintro i m σ' H' ⟨rfl, hi, I⟩
  have g := hG i σ' H' I
  by_cases hlt : i < n
  · refine .inr ⟨sa.go H' i g hlt, Pv (i + 1), fun σ2 H2 z => ⟨n - (i + 1), by omega, rfl, hlt, z⟩, fun v H2 hy => ?_⟩
    obtain ⟨T, x, y, rfl, nT, rfl, dx, dy⟩ := sa.yld H' i v H2 g hlt hy
    exact g2_to upd_same (step i σ' H' hlt I x y _ (same_new nT) dx dy)
  · have e : i = n := by omega
    subst e
    exact .inl ⟨sa.stop H' g, done σ' H' I⟩
/-- over pairs that stand in a tuple -/
theorem s_for2S {j k : Nat} {n : Nat} {it1 it2 : Nat → PyData} (Pv : Nat → L2.St → Hp → Prop) (hs : Src2 K wi σ Hb n it1 it2) (hb : Same Hb H) (h0 : Pv 0 σ H) (hG : ∀ i σ' H', Pv i σ' H' → Same Hb H')
    (step : ∀ i σ' H', i < n → Pv i σ' H' → ∀ x y H2, Same H' H2 → Dp K Hb x (it1 i) → Dp K Hb y (it2 i) → tbo { nx := Pv (i + 1), rt := D.rt, ct := Pv (i + 1), bk := rest D } ((σ'.set j (some x)).set k (some y)) H2) (done : ∀ σ' H', Pv n σ' H' → rest D σ' H') : tSeq (tFor wi (g2 K j k) tbo) rest D σ H :=
  s_for2 (D := { D with nx := rest D }) hs hb Pv h0 hG step done
/-- over pairs that stand in a tuple -/
theorem s_forP {j k : Nat} {n : Nat} {it1 it2 : Nat → PyData} (hs : Src1 K wi σ Hb n fun i => .tuple [it1 i, it2 i]) (hb : Same Hb H) (Pv : Nat → L2.St → Hp → Prop) (h0 : Pv 0 σ H) (hG : ∀ i σ' H', Pv i σ' H' → Same Hb H')
    (step : ∀ i σ' H', i < n → Pv i σ' H' → ∀ x y, Dp K Hb x (it1 i) → Dp K Hb y (it2 i) → tbo { nx := Pv (i + 1), rt := D.rt, ct := Pv (i + 1), bk := D.nx } ((σ'.set j (some x)).set k (some y)) H') (done : ∀ σ' H', Pv n σ' H' → D.nx σ' H') : tFor wi (g2 K j k) tbo D σ H := by
  refine hs H hb _ fun J sa => ?_
  refine ⟨fun i m σ' H' => m = n - i ∧ i ≤ n ∧ Pv i σ' H', ⟨n, by simp, Nat.zero_le _, h0⟩, ?_⟩
  rintro i m σ' H' ⟨rfl, hi, I⟩
  have g := hG i σ' H' I
  by_cases hlt : i < n
  · refine .inr ⟨sa.go H' i g hlt, Pv (i + 1), fun σ2 H2 z => ⟨n - (i + 1), by omega, rfl, hlt, z⟩, fun v H2 y => ?_⟩
    obtain ⟨e, dx⟩ := sa.yld H' i v H2 g hlt y
    subst e
    obtain ⟨T, xs, rfl, hT, hx⟩ := dx.isTup
    cases hx with
    | cons d1 d2 =>
      cases d2 with
      | cons d2 d3 =>
        cases d3
        exact ⟨T, _, rfl, L2.Same.tupT g hT, rfl, _, _, rfl, _, [], rfl, rfl, step i σ' H2 hlt I _ _ d1 d2⟩
  · have e : i = n := by omega
    subst e
    exact .inl ⟨sa.stop H' g, done σ' H' I⟩
end
/-! ### the text -/
def topS (i : Nat) : Stmt := PySem.Challenge.pw_caskyears_k59_whole_rounds_come_nearer.main.body.getD i (.Pass ⟨0, 0, 0, 0⟩)
def fnNames : List (String × Nat) := [("is_integer", 12), ("is_kind", 13), ("is_fraction", 15), ("is_amount", 16), ("is_share", 17), ("need_fraction", 18), ("need_share", 19), ("fraction", 20), ("plus", 21), ("less", 22), ("times", 23), ("sum_of", 24), ("dot", 26), ("cleared", 27), ("reduced", 28), ("only_point", 29), ("is_fill", 31), ("is_cellar", 32), ("need_fill", 33), ("need_cellar", 34), ("size", 35), ("together", 36), ("part", 37), ("is_table", 39), ("kept_of", 40), ("need_table", 41), ("still", 42), ("column_of", 43), ("behind", 44), ("as_integers", 45), ("as_table", 46), ("integer_product", 47), ("power", 48), ("worked", 50), ("after", 52), ("goes_to", 53), ("reached_from", 54), ("rings", 55), ("period_of_ring", 56), ("period", 57), ("standing", 58), ("comes_into", 59), ("end_of", 60), ("limits", 61), ("shortened", 62), ("widest", 63), ("near", 64), ("_law_jug", 66), ("_law_drop", 67), ("_law_low", 68), ("_law_same", 69), ("_law_add", 70), ("_law_sub", 71), ("_law_table", 73), ("_law_distances", 74), ("_law_at_most", 75), ("_law_nearer", 76), ("_law_near", 77), ("_law_in", 78), ("_law_rounds", 79), ("_law_rings", 80), ("law", 81)]
def freeN : List String := ["len", "range", "zip", "isinstance", "sum", "all", "max", "min", "abs", "int", "bool", "str", "tuple", "list", "sorted", "super"]
/-- what the top has left -/
structure Txt (K : Fg) (mg : Str → Option Value) where
  fa : Nat → Addr
  fd : Nat → FuncData
  F : ∀ (i : Nat) (p : String × Nat), fnNames[i]? = some p → Fun K (Str.ofString p.1) (Str.ofString p.1) (topS p.2) (fa i) (fd i)
  g : ∀ (i : Nat) (p : String × Nat), fnNames[i]? = some p → mg (Str.ofString p.1) = some (.ref (fa i))
  nb : ∀ x : String, x ∈ freeN → mg (Str.ofString x) = none
  gcd : mg "gcd" = some (.builtin "math.gcd")
  lcm : mg "lcm" = some (.builtin "math.lcm")
theorem Txt.n {K : Fg} {mg : Str → Option Value} (T : Txt K mg) (x : String) (h : freeN.contains x = true := by decide) : mg (Str.ofString x) = none := T.nb x (List.contains_iff_mem.mp h)
end Ck
end

section
set_option Elab.async false
set_option linter.all false
set_option maxRecDepth 100000
set_option maxHeartbeats 2000000
/-! TooMany(300): an own exception whose base's __init__ says super().__init__(..). -/
namespace Ck
open PySem
def clsB : Stmt → List Stmt
  | .ClassDef _ _ _ b _ _ _ _ _ _ _ => b
  | _ => []
abbrev tooFn : Stmt := (clsB (topS 2)).getD 0 (.Pass ⟨0, 0, 0, 0⟩)
end Ck
namespace PySem
namespace TooX
open PySem.W PySem.Calls PyProof.Rows PySem.HandSPX
abbrev iA : Arguments := L2.defArgs Ck.tooFn
abbrev iB : List Stmt := L2.defBody Ck.tooFn
abbrev iS : Scope := L2.defScope Ck.tooFn
/-- what the written part says of TooMany, at C, of CaskError, at D, and of its __init__, at fI -/
structure TooTxt (P : Program) (K : Frag) (mg : Str → Option Value) (C D fI : Addr) : Prop where
  gC : mg "TooMany" = some (.ref C)
  noS : mg "super" = none
  cls : ∃ nm q N bs bm sn sub ab col dd k0 k1 k2 k3 k5, K.lookup C = some (excClassObj nm q C N bs bm true sn sub ab col dd k0 k1 k2 k3 k5 "ValueError.__new__") ∧ refsVE bm = true
  clsD : ∃ cd, clsIn K D = some cd
  subD : mroIn K C (.ref D) = some true
  subV : subIn K (.ref C) (.type "ValueError") = some true
  sup : ks_superIn K C D "__init__" = some (some (.builtin "ValueError.__init__"))
  opq : nsIn K cStatics "thirdparty.any" = some none
  sa : findIn K (.ref C) "__setattr__" = some (some (.builtin "object.__setattr__"))
  ga : findIn K (.ref C) "__getattribute__" = some (some (.builtin "BaseException.__getattribute__"))
  gg : findIn K (.ref C) "__getattr__" = some none
  noN : findIn K (.ref C) "value" = some none
  iC : findIn K (.ref C) "__init__" = some (some (.ref fI))
  tC : typeIn K (.ref fI) = some (.type "function")
  kC : keepIn K (.ref C) = true
  exC : subIn K (.ref C) (.type "BaseException") = some true
  tyC : typeIn K (.ref C) = some (.type "type")
  hdC : hasDictIn K C = true
  te : exmOne K (.ref C) (.ref C) = some true
  top : (P.main.scope.names.lookup ("super" : Str)).isSome = false
  fn : ∃ (oc cl ccl : Value) (od cld cdd : Option Addr) (doc pm ct : Value) (an : Option Addr) (cda cc : Addr) (osl csl ccs : Array (Option Value)) (vs : Array Value) (file : Str) (tf : Tok),
    K.lookup fI = some ⟨oc, od, .func (ksFn "__init__" "CaskError.__init__" iA iB iS .none .none doc pm an (.ref cda) ct cc), osl⟩ ∧ codeIn K (.ref cda) "CaskError.__init__" = true ∧
    K.lookup cda = some ⟨ccl, cdd, .fields vs, ccs⟩ ∧ vs[2]? = some (.str file tf) ∧ ((P.main.file : Str) == file) = true ∧ K.lookup cc = some ⟨cl, cld, .cell (some (.ref D)), csl⟩
theorem one_size (v : Value) : [v].length ≤ sizeLine := by
  rw [sizeLine_eq]
  exact (by decide : 1 ≤ 16777216)
structure InitEnd (h h' : Heap) (x C dx t1 : Addr) (v : Value) : Prop where
  keep : ∀ b o, b ≠ x → h.get? b = some o → h'.get? b = some o
  obj : h'.get? x = some { cls := .ref C, dict := some dx, data := .fields #[.ref t1, .none, .none, .none, .bool false, .none] }
  dbig : h.objs.size ≤ dx
  dne : dx ≠ x
  ns : h'.Ns1 dx (fun y => if y = "value" then some v else none)
structure OwnMade (h h' : Heap) (e C d : Addr) (v : Value) : Prop where
  keep : ∀ b o, h.get? b = some o → h'.get? b = some o
  new : h.objs.size ≤ e
  obj : ∃ oe vs, h'.get? e = some oe ∧ oe.cls = .ref C ∧ oe.dict = some d ∧ oe.data = .fields vs ∧ vs[1]? = some .none
  dbig : h.objs.size ≤ d
  dne : d ≠ e
  ns : h'.Ns1 d (fun y => if y = "value" then some v else none)
section
variable {prog : Program} {w : World} {A : Around} {E : Value → Shared → Prop} {R : Result → Shared → Prop} {s : Shared} {K : Frag} {mg : Str → Option Value} {C D fI : Addr}
theorem call_mw {u e t0 : Addr} {rest : List Value} {hp : Heap} {g : Array GenState} {d : Drawn} {t : Nat} {os : OsState} {nm q : Str} {N : Addr} {bs bm : List Value} {hdct : Bool} {sn : List Str} {sub : List Value} {ab : Bool} {col : Option Bool} {dd : Option Addr} {k0 k1 k2 k3 k5 : Option Value} {Q : Value → Shared → Prop}
    (hC : hp.get? C = some (excClassObj nm q C N bs bm hdct sn sub ab col dd k0 k1 k2 k3 k5 "ValueError.__new__")) (he : hp.get? e = some (excO C t0)) (hu : hp.get? u = some (kxs_mw "ValueError.__init__" e)) (hrest : rest.length ≤ sizeLine)
    (hq : ∀ h' t1, (∀ b o, b ≠ e → hp.get? b = some o → h'.get? b = some o) → h'.get? e = some (excO C t1) → Q .none ⟨h', g, d, t, os⟩) :
    wpAny (model prog w) A (call (.ref u) rest) Q E ⟨hp, g, d, t, os⟩ := by
  refine wpAny_call (codeAny_of_tree ?_)
  show wpAny _ A.in1 (callAny (.ref u) ⟨rest, []⟩) _ _ _
  simp only [callAny]
  refine wpAny_bind (wpAny_load hu ?_)
  simp only [kxs_mw, show (Value.type "method-wrapper" == Value.type "method" || Value.type "method-wrapper" == Value.type "builtin_function_or_method" || Value.type "method-wrapper" == Value.type "method-wrapper") = true by decide, if_true]
  refine KFB.if_so (by decide) ?_
  refine wpAny_bind (check_bound_init F.excBase_ValueError.toExcCallFacts hC he rfl ?_)
  refine wpAny_bind (wpAny_pure (wpAny_pure ?_))
  refine ⟨plainId_quiet F.excBase_ValueError.init.plain _, codeAny_builtin F.excBase_ValueError.initEntry ?_⟩
  exact exc_init_tree (cls := .ref C) (t0 := t0) (dv := none) (c2 := .none) (c3 := .none) (b4 := .bool false) he hrest fun h' k e1 e2 => hq h' _ k e1
theorem too_init (T : TooTxt prog K mg C D fI) {x t0 : Addr} {v : Value} (X : K.In s.heap) (hlim : s.heap.NoLimit) (G : s.heap.Ns mainGlobals mg) (B : ∃ mb, s.heap.Ns builtinsNs mb ∧ mb "super" = some (.type "super")) (hx : s.heap.get? x = some (excO C t0)) (hnx : K.lookup x = none) (hroom : A.depth < recursionLimit)
    (hq : ∀ h' tk dx t1, InitEnd s.heap h' x C dx t1 v → R (.ok (.ret .none)) { s with heap := h', toks := tk }) :
    codeAny (model prog w) A (.call (.ref fI) ⟨[.ref x, v], []⟩) R s := by
  obtain ⟨oc, cl, ccl, od, cld, cdd, doc, pm, ct, an, cda, cc, osl, csl, ccs, vs, file, tf, ho, hcd, hcda, hvs, hfile, hcell⟩ := T.fn
  obtain ⟨nm, q, N, bs, bm, sn, sub, ab, col, dd, k0, k1, k2, k3, k5, hC, hbm⟩ := T.cls
  obtain ⟨cdD, hD⟩ := T.clsD
  obtain ⟨mb, hb, hmb⟩ := B
  have hcl : clsIn K C = some { name := nm, bases := bs, mro := .ref C :: bm, ns := N, qualname := q, hasDict := true, slotNames := sn, subclasses := sub, abstract := ab, collection := col, hasDel := false } := by unfold clsIn; rw [hC] <;> rfl
  refine ks_codeAny_call_defAt (fd := ksFn "__init__" "CaskError.__init__" iA iB iS .none .none doc pm an (.ref cda) ct cc) (body := iB) (binds := [("self", .ref x), ("value", v)]) hroom (X _ _ ho) rfl hlim (codeRec_of X hcd) rfl (BindsTo.of_eq (by first | rfl | with_unfolding_all rfl)) (by show ∀ x ∈ iS.names, x.2 ≠ .cell; decide +kernel) (by intro y hy; simp at hy; rcases hy with rfl | rfl <;> rfl) (fun h₁ hns k => ?_) rfl rfl rfl
  have hxL : s.heap.objs.size ≠ x := Nat.ne_of_gt (Heap.lt_size hx)
  have X₁ : K.In h₁ := X.keeps k
  have hx₁ := k _ _ hx
  obtain ⟨oD, hD1, hD2⟩ : ∃ oD, h₁.get? D = some oD ∧ oD.data = .cls cdD := by
    unfold clsIn at hD
    split at hD
    · rename_i c d cd' sl ho
      cases hD
      exact ⟨_, X₁ _ _ ho, rfl⟩
    · cases hD
  have hI : InstAt h₁ x (excO C t0) C none := ⟨hx₁, rfl, rfl, trivial⟩
  have hxC := ks_ne X₁ hI hcl
  -- super().__init__('caskyears')
  refine (?_ : wpAt _ _ _ (execs (_ :: _) _) _ _ _)
  refine ks_wpAt_execs_cons ?_
  refine ks_wpAt_Expr_any ?_ rfl rfl
  refine ks_wpAt_MethodCall ?_ rfl
  refine ks_wpAt_super_base (f := fI) (cc := cda) (ar := { arg := "self", annotation := none, pos := ⟨5, 17, 5, 21⟩ }) rfl rfl rfl rfl (X₁ _ _ ho) rfl rfl rfl (X₁ _ _ hcda) rfl hvs hfile T.top ?_
  refine ks_loadName_global rfl rfl (loadGlobal_builtin (G.keeps k) T.noS (hb.keeps k) hmb ⟨rfl, ?_⟩)
  refine wpAny_loadName_free rfl rfl rfl ⟨_, X₁ _ _ hcell, rfl⟩ ?_
  refine wpAny_loadName_local rfl rfl hns rfl ?_
  refine ks_wpAny_isType_cls hD1 hD2 ⟨rfl, ?_⟩
  refine ks_wpAny_call_super hD1 hD2 hx₁ rfl (fun c e => by cases e) (looks_mroIn X₁ T.subD) (fun h₂ hso k₂ => ?_)
  have X₂ : K.In h₂ := X₁.keeps k₂
  have hI₂ : InstAt h₂ x (excO C t0) C none := ⟨k₂ _ _ hx₁, rfl, rfl, trivial⟩
  refine kxs_getMethod kxs_ValueError hso (looks_opaque X₂ T.opq) (l₀ := .ref C :: bm) (fun A Q E s k q => wpAny_bind ((looks_clsIn X₂ hcl) A _ E s k (wpAny_pure q))) rfl X₂ (by have h := T.sup; unfold ks_superIn at h; rw [hcl] at h; exact h) (hI₂.type.andThen (looks_subIn X₂ T.subV)) hxC rfl ?_
  have hu : (h₂.push (kxs_mw "ValueError.__init__" x)).get? h₂.objs.size = some (kxs_mw "ValueError.__init__" x) := Heap.get?_push_size _ rfl
  have k₃ : ∀ b o, h₂.get? b = some o → (h₂.push (kxs_mw "ValueError.__init__" x)).get? b = some o := fun b o e => Heap.get?_push_of_some _ e
  refine kxs_callWith (i := "ValueError.__init__") (x := x) rfl ?_
  refine evalArgs_plain (PyProof.Rows.spliced_more (rest := []) (Constant_str (spliced_nil ⟨hu, ?_⟩)))
  refine call_mw (X₂.keeps k₃ _ _ hC) (k₃ _ _ (k₂ _ _ hx₁)) hu (one_size _) fun h₄ t4 k₄ hx₄ => ?_
  have X₄ : K.In h₄ := fun a o e => k₄ a o (fun z => by rw [z, hnx] at e; cases e) (X₂.keeps k₃ _ _ e)
  have kk : ∀ b o, b ≠ x → h₁.get? b = some o → h₄.get? b = some o := fun b o hb e => k₄ b o hb (k₃ b o (k₂ b o e))
  have hns₄ : h₄.Ns s.heap.objs.size (fun y => List.lookup y ([("self", Value.ref x), ("value", v)] : List (Str × Value)).reverse) := by
    obtain ⟨o, es, ep, e, r⟩ := hns
    exact ⟨o, es, ep, kk _ _ hxL e, r⟩
  -- self.value = value
  dsimp only
  refine (?_ : wpAt _ _ _ (execs (_ :: _) _) _ _ _)
  refine wpAt_of_wpAny (wpAny_execs_cons (plainObj_wpAny_Assign_Attribute ?_ rfl))
  refine wpAny_Name (wpAny_loadName_local rfl rfl hns₄ rfl ?_) (by decide)
  refine wpAny_Name (wpAny_loadName_local rfl rfl hns₄ rfl ?_) (by decide)
  refine set_plain X₄ (ox := excO C t4) (od := none) ⟨hx₄, rfl, rfl, trivial⟩ T.sa ?_
  refine exc_osa X₄ hx₄ hcl (show refsVE (.ref C :: bm) = true from hbm) rfl T.noN (fun h₅ tk₅ dx k₅ dn dne hx₅ hn₅ => ?_)
  have old : ∀ b o, b ≠ x → s.heap.get? b = some o → h₅.get? b = some o := fun b o hb e => k₅ b o hb (kk b o hb (k b o e))
  have z : s.heap.objs.size < h₄.objs.size := hns₄.lt
  exact wpAny_execs_nil (hq h₅ tk₅ dx t4 ⟨old, hx₅, Nat.le_of_lt (Nat.lt_of_lt_of_le z dn), dne, hn₅⟩)
theorem too_made (T : TooTxt prog K mg C D fI) {v : Value} (X : K.In s.heap) (hlim : s.heap.NoLimit) (G : s.heap.Ns mainGlobals mg) (B : ∃ mb, s.heap.Ns builtinsNs mb ∧ mb "super" = some (.type "super")) (hroom : A.depth + 1 < recursionLimit)
    (hq : ∀ h' tk e d, OwnMade s.heap h' e C d v → R (.ok (.ret (.ref e))) { s with heap := h', toks := tk }) :
    codeAny (model prog w) A (.call (.ref C) ⟨[v], []⟩) R s := by
  obtain ⟨nm, q, N, bs, bm, sn, sub, ab, col, dd, k0, k1, k2, k3, k5, hC, hbm⟩ := T.cls
  obtain ⟨mb, hb, hmb⟩ := B
  obtain ⟨hp, g, dr, tk, os⟩ := s
  have k : ∀ b o, hp.get? b = some o → ((hp.push (kdv_tup [v])).push (excO C hp.objs.size)).get? b = some o := fun b o e => Heap.get?_push_of_some _ (Heap.get?_push_of_some _ e)
  have hget : ((hp.push (kdv_tup [v])).push (excO C hp.objs.size)).get? (hp.objs.size + 1) = some (excO C hp.objs.size) := by heap_get
  have hnx : K.lookup (hp.objs.size + 1) = none := by
    cases e : K.lookup (hp.objs.size + 1) with
    | none => rfl
    | some o =>
      have z : hp.get? (hp.objs.size + 1) = some o := X _ _ e
      exact absurd (Nat.lt_of_succ_lt (Heap.lt_size z)) (Nat.lt_irrefl _)
  refine call_own F.excBase_ValueError (fun X => refsVE_contains X bm hbm) (X _ _ hC) (looks_findIn X T.iC) (fun self => bind_fn X self T.tC) (one_size v) ?_
  refine too_init (s := ⟨(hp.push (kdv_tup [v])).push (excO C hp.objs.size), g, dr, tk, os⟩) T (X.keeps k) (hlim.keeps k) (G.keeps k) ⟨mb, hb.keeps k, hmb⟩ hget hnx ?_ fun h' tk' dx t1 ⟨k', hx, dn, dne, hns⟩ => ?_
  · show A.depth + 1 < recursionLimit
    exact hroom
  · have old : ∀ b o, hp.get? b = some o → h'.get? b = some o := fun b o e => k' b o (Nat.ne_of_lt (Nat.lt_succ_of_lt (Heap.lt_size e))) (k b o e)
    have z : hp.objs.size + 1 + 1 ≤ dx := by
      first
        | (simpa only [Heap.size_push] using dn)
        | exact dn
        | (have q := dn; rw [Heap.size_push, Heap.size_push] at q; exact q)
    exact ⟨rfl, hq h' tk' (hp.objs.size + 1) dx ⟨old, Nat.le_succ _, ⟨_, _, hx, rfl, rfl, rfl, rfl⟩, Nat.le_trans (Nat.le_trans (Nat.le_succ _) (Nat.le_succ _)) z, dne, hns⟩⟩
end
end TooX
end PySem
namespace L2
open PySem PySem.Spec PyProof.Rows
theorem relO_val {v : V} {v' : Value} (r : RelV v v') (f : Str) : RelO (List.lookup f [(("value" : Str), v)]) (if f = "value" then some v' else none) := by
  by_cases hw : f = "value"
  · subst hw
    rw [if_pos rfl]
    have q : List.lookup ("value" : Str) [(("value" : Str), v)] = some v := by simp [List.lookup]
    rw [q]
    exact r
  · rw [if_neg hw]
    have qw : (f == ("value" : Str)) = false := by simpa using hw
    have q2 : List.lookup f [(("value" : Str), v)] = none := by simp [List.lookup, qw]
    rw [q2]
    trivial
section
variable {X : Cx} {C D fI : Addr}
/-- TooMany(e) -/
def tMkToo (C : Addr) (ta : TA) : St → Hp → XK → Prop := fun σ H Q => ta σ H fun vs H1 => ∃ v, vs = [v] ∧ ∀ d, H1 d = none → Q (.ref C) (some d) (upd H1 d (.xd [(("value" : Str), v)]))
theorem pmk_too {a : Expr} {ta : TA} {p pos : Pos} {k : Nat} (T : PySem.TooX.TooTxt X.prog X.K X.mg C D fI) (hr : Room k X.A) (ha : PA X [a] ta) (hg : Gl X "TooMany" := by rfl)
    (he : starEach (a :: []) X.env = (false, eval a X.env) :: starEach [] X.env := by rfl) (hpl : (backTo pos (starEach [] X.env)).any (·.1) = false := by rfl) :
    PMk X (.Call (.Name "TooMany" p) [a] [] pos) (tMkToo C ta) := by
  intro pins s σ H Q I h
  refine wpAny_Call_Name_kw (ld_glob I hg T.gC ?_)
  refine PySem.W.callWith_K (h₀ := X.base) I.ok.mod.kin T.kC (thn (ha.run pos pins s σ H _ I h) fun us s1 hh => ?_) he hpl
  obtain ⟨vs, H1, I1, r1, v, ev, q1⟩ := hh
  subst ev
  refine ⟨I1.kIn, ?_⟩
  cases r1 with
  | cons rv rn =>
    rename_i v' us'
    cases rn
    show wpAny _ _ (call (.ref C) [v']) _ _ _
    have hlim := I1.nolimit
    have hG := I1.mod.glob.keeps I1.bk
    obtain ⟨mb, hb1, hb2⟩ := I1.mod.blt
    have hB : ∃ mb, s1.heap.Ns builtinsNs mb ∧ mb "super" = some (.type "super") := ⟨mb, hb1.keeps I1.bk, (hb2 "super" (by decide)).trans (by first | rfl | decide +kernel | kernel_rfl)⟩
    obtain ⟨hp, g, dr, tk, os⟩ := s1
    refine wpAny_call (PySem.TooX.too_made T I1.kIn hlim hG hB (by have := hr.dp; omega) fun h' tk' e d M => ?_)
    show MkP X pins σ Q (.ref e) ⟨h', g, dr, tk', os⟩
    obtain ⟨oe, fv, hoe, hc, hd, hdat, h1⟩ := M.obj
    have hns := M.ns
    obtain ⟨G', g1, g2⟩ := restrict h' fun b => decide (b ≠ e)
    have gk : ∀ b, b ≠ e → G'.get? b = h'.get? b := fun b hb => g1 b (decide_eq_true hb)
    have ge : G'.get? e = none := g2 e (by simp)
    have old : ∀ b o, hp.get? b = some o → G'.get? b = some o := fun b o q => (gk b (Nat.ne_of_lt (Nat.lt_of_lt_of_le (Heap.lt_size q) M.new))).trans (M.keep b o q)
    have ob : ObjOk X.prog X.w (upd H1 d (.xd [(("value" : Str), v)])) G' d (.xd [(("value" : Str), v)]) :=
      ⟨_, hns.at (fun o q => (gk d M.dne).trans q), fun f => relO_val rv f⟩
    have J : Inv X pins σ (upd H1 d (.xd [(("value" : Str), v)])) ⟨G', g, dr, tk', os⟩ := I1.laid (t' := tk') old M.dbig ob
    refine ⟨e, oe, fv, ⟨G', g, dr, tk', os⟩, _, .ref C, some d, rfl, J, fun b o q => ?_, ge, hoe, ⟨hc, hd⟩, hdat, h1, ?_, rfl, I1.bare, raises_own T.exC T.tyC, q1 d (I1.hok.fresh M.dbig)⟩
    · by_cases hb : b = e
      · have q' : G'.get? b = some o := q
        rw [hb, ge] at q'; cases q'
      · exact (gk b hb).symm.trans q
    · rw [upd_ne (Ne.symm M.dne)]
      exact I1.hok.fresh M.new
/-- raise TooMany(e) -/
def tRaiseToo (C : Addr) (W : WX) (ta : TA) : TS := fun _ σ H => tMkToo C ta σ H fun cls d H' => W cls d σ H'
theorem ps_raiseToo {a : Expr} {ta : TA} {W : WX} {p pos pos2 : Pos} {k : Nat} (hc : X.calm = true) (T : PySem.TooX.TooTxt X.prog X.K X.mg C D fI) (hr : Room k X.A) (tk : Takes X W) (ha : PA X [a] ta) (hg : Gl X "TooMany" := by rfl)
    (he : starEach (a :: []) X.env = (false, eval a X.env) :: starEach [] X.env := by rfl) (hpl : (backTo pos (starEach [] X.env)).any (·.1) = false := by rfl) :
    PS X (.Raise (some (.Call (.Name "TooMany" p) [a] [] pos)) none pos2) (tRaiseToo C W ta) := ps_raise hc tk (pmk_too T hr ha hg he hpl)
/-- e.value, e the exception that the suite holds (at a; its class cls, its dict d) -/
def tByToo (C : Addr) (a : Addr) (cls : Value) (d : Option Addr) (te : TE) : TE := fun σ H Q => te σ H fun x H1 => x = .ref a ∧ cls = .ref C ∧ ∃ (dd : Addr) (v : V), d = some dd ∧ H1 dd = some (.xd [(("value" : Str), v)]) ∧ Q v H1
theorem pe_byToo {P : Program} {a : Addr} {oe : Obj} {cls : Value} {d : Option Addr} {pn : List (Addr × Obj)} {e : Expr} {te : TE} {pos : Pos} (T : PySem.TooX.TooTxt P X.K X.mg C D fI) (hz : Zc cls d oe) (hf : ∃ vs, oe.data = .fields vs) (he : PE (X.suite a ((a, oe) :: pn)) e te)
    (hb : attributeBase e "value" X.env (eval e X.env) = eval e X.env := by rfl) :
    PE (X.suite a ((a, oe) :: pn)) (.Attribute e "value" pos) (tByToo C a cls d te) := by
  refine ⟨fun pins s σ H Q I h => ?_⟩
  refine attr_of hb (thn (he.run pins s σ H _ I h) fun u s1 hh => ?_)
  obtain ⟨x, H1, I1, rx, ex, ec, dd, v, ed, ea, q⟩ := hh
  subst ex
  obtain rfl : u = Value.ref a := rx
  subst ec
  subst ed
  obtain ⟨ha, _⟩ := I1.pin (a, oe) (List.mem_append_left _ List.mem_cons_self)
  obtain ⟨vs, hd⟩ := hf
  have hx : ObjOk X.prog X.w H1 s1.heap dd (.xd [(("value" : Str), v)]) := I1.hok dd _ ea
  obtain ⟨mA, hns, hr⟩ := hx
  obtain ⟨od, ho, hl⟩ := lookIn_ns hns
  have l : List.lookup ("value" : Str) [(("value" : Str), v)] = some v := by simp [List.lookup]
  obtain ⟨u, hu, ru⟩ := RelO.some_of (v := v) (o := mA "value") (by rw [← l]; exact hr "value")
  have J : PySem.W.InstAt s1.heap a oe C (some od) := ⟨ha, hz.1, by unfold PySem.W.notCls; rw [hd] <;> rfl, by rw [hz.2]; exact ho⟩
  exact HandSPX.exc_get I1.kIn J T.ga T.gg T.exC (PySem.W.findObj_own T.hdC T.noN rfl (by rw [hl, hu])) (handed_of ru) ⟨v, H1, I1.tok _, ru, q⟩
end
end L2
end

section
set_option Elab.async false
set_option linter.all false
set_option maxRecDepth 100000
set_option maxHeartbeats 2000000
/-! basics, fractions. -/
namespace Ck
open PySem PySem.Spec PyProof.Rows L2
section
variable {P : Program} {w : World} {K : Fg} {mg : Str → Option Value} {base : Heap}
theorem okD {x qual : Str} {st : Stmt} {f : Addr} {fd : FuncData} {N ps : List Str} {k : Nat} {Pd : List PyData → PyData → Prop} (F : Fun K x qual st f fd) (S : FnScope N ps (defScope st)) (len : ∀ ds r, Pd ds r → ds.length = ps.length)
    (hbody : ∀ (cdv : Value) (A : Around) (outer : List Env) (s : Shared) (H : Hp) (vs : List V) (Q : VK) (E : XK) (ds : List PyData) (r : PyData), Room k (A.deeper (envOfC qual (defScope st) s.heap.objs.size f cdv)) → DpAll K H vs ds → Pd ds r → (∀ v H', Same H H' → Dn K H H' v r → Q v H') →
      ∃ t, PSs (cxOf CX0 P w K mg base N qual (defScope st) f cdv A outer s H E).nox (defBody st) t ∧ t { nx := fun _ H' => Q .non H', rt := Q } (start N vs) H) : FnOk P w K mg base CX0 (k + 1) f fd ps (spD K Pd) :=
  F.ok S (fun vs H Q E ⟨ds, r, hv, hp, _⟩ => (DpAll.len hv).trans (len ds r hp)) fun cdv A outer s H vs Q E hr ⟨ds, r, hv, hp, q⟩ => hbody cdv A outer s H vs Q E ds r hr hv hp q
section
variable {H : Hp} {vs : List V} {a b c d : PyData}
theorem one_of (h : DpAll K H vs [a]) : ∃ x, vs = [x] ∧ Dp K H x a := by
  cases h with
  | cons h1 h2 => cases h2; exact ⟨_, rfl, h1⟩
theorem two_of (h : DpAll K H vs [a, b]) : ∃ x y, vs = [x, y] ∧ Dp K H x a ∧ Dp K H y b := by
  cases h with
  | cons h1 h2 => obtain ⟨y, rfl, hy⟩ := one_of h2; exact ⟨_, _, rfl, h1, hy⟩
theorem three_of (h : DpAll K H vs [a, b, c]) : ∃ x y z, vs = [x, y, z] ∧ Dp K H x a ∧ Dp K H y b ∧ Dp K H z c := by
  cases h with
  | cons h1 h2 => obtain ⟨y, z, rfl, hy, hz⟩ := two_of h2; exact ⟨_, _, _, rfl, h1, hy, hz⟩
end
/-! ### isinstance -/
def tyD : PyData → String
  | .none => "NoneType"
  | .bool _ => "bool"
  | .int _ => "int"
  | .str _ => "str"
  | .list _ => "list"
  | .tuple _ => "tuple"
  | .dict _ => "dict"
theorem dp_ty {H : Hp} : ∀ {d : PyData} {v : V}, Dp K H v d → TyX K H v (.type (tyD d))
  | .none, _, h => by cases h; exact .base .non
  | .bool _, _, h => by cases h; exact .base (.bl _)
  | .int _, _, h => by cases h; exact .base (.int _)
  | .str _, _, h => by cases h; exact .base (.str _)
  | .list _, _, h => by
    cases h with
    | lst hs _ =>
      rcases hs with (hs | ⟨o, hs⟩) | ⟨o, its, n, hk, hc, _⟩
      · exact .base (.lst hs)
      · exact .base (.frz hs)
      · exact .kList hk hc
  | .tuple _, _, h => by
    cases h with
    | tup hs _ =>
      rcases hs with (hs | ⟨o, hs⟩) | ⟨o, its, n, hk, hc, _⟩
      · exact .base (.tup hs)
      · exact .fTuple hs
      · exact .kTuple hk hc
  | .dict _, _, h => by cases h
theorem z_isi {σ : L2.St} {H : Hp} {ta : TE} {d : PyData} {c : String} {b : Bool} (ha : Ez K ta σ H d) (hb : kitB (tyD d) c = some b := by rfl) : Ez K (tCB (rIsi K) (tCons ta (tCons (tC (.ty c)) tNil))) σ H (.bool b) := fun H1 s Q q =>
  ha H1 s _ fun v H2 s2 dv => ⟨v, .ty c, .type (tyD d), .type c, b, rfl, .ty c, dp_ty dv, kit_ty hb, q _ H2 s2 (.bl b)⟩
/-! ### fractions -/
def frD (q : Rat) : PyData := .tuple [.int q.num, .int (q.den : Int)]
theorem flat_fr {q : Rat} : flatD (frD q) = true := rfl
section
variable {σ : L2.St} {H : Hp} {ta tb : TE} {q : Rat}
theorem z_num (ha : Ez K ta σ H (frD q)) : Ez K (tOp (rIx K) ta (tC (.int 0))) σ H (.int q.num) := z_ixT (i := 0) ha z_int rfl
theorem z_den (ha : Ez K ta σ H (frD q)) : Ez K (tOp (rIx K) ta (tC (.int 1))) σ H (.int q.den) := z_ixT (i := 1) ha z_int rfl
theorem z_mul {i j : Int} (ha : Ez K ta σ H (.int i)) (hb : Ez K tb σ H (.int j)) (hc : IntMulOk i j) : Ez K (tOp (rI IntMulOk fun i j => .int (i * j)) ta tb) σ H (.int (i * j)) := z_intC ha hb hc
theorem z_gcd {i j : Int} (ha : Ez K ta σ H (.int i)) (hb : Ez K tb σ H (.int j)) : Ez K (tCB rGcd (tCons ta (tCons tb tNil))) σ H (.int ((Nat.gcd i.natAbs j.natAbs : Nat) : Int)) := z_cb (a_cons ha (a_one hb)) fun vs H1 s dv Q q => by
  obtain ⟨x, y, rfl, dx, dy⟩ := two_of dv
  cases dx; cases dy
  exact ⟨i, j, rfl, q _ _ (Same.refl _) (.int _)⟩
theorem eqv_int {i j : Int} : PyData.eqv (.int i) (.int j) = decide (i = j) := by
  unfold PyData.eqv
  first | rfl | (rw [Bool.beq_eq_decide_eq]) | simp
theorem z_eqD {d e : PyData} (ha : Ez K ta σ H d) (hb : Ez K tb σ H e) (h1 : SeqAt.shaped d = true := by rfl) (h2 : SeqAt.shaped e = true := by rfl) : Ez K (tOp (rEqD K) ta tb) σ H (.bool (PyData.eqv d e)) := z_op ha hb fun x y H1 s dx dy Q q =>
  ⟨d, e, dx, dy, h1, h2, q _ _ (Same.refl _) (.bl _)⟩
theorem z_neD {d e : PyData} (ha : Ez K ta σ H d) (hb : Ez K tb σ H e) (h1 : SeqAt.shaped d = true := by rfl) (h2 : SeqAt.shaped e = true := by rfl) : Ez K (tOp (rNeD K) ta tb) σ H (.bool (!PyData.eqv d e)) := z_op ha hb fun x y H1 s dx dy Q q =>
  ⟨d, e, dx, dy, h1, h2, q _ _ (Same.refl _) (.bl _)⟩
theorem z_eqI {i j : Int} (ha : Ez K ta σ H (.int i)) (hb : Ez K tb σ H (.int j)) : Ez K (tOp (rEqD K) ta tb) σ H (.bool (decide (i = j))) := by
  have h := z_eqD ha hb
  rw [eqv_int] at h; exact h
theorem z_neI {i j : Int} (ha : Ez K ta σ H (.int i)) (hb : Ez K tb σ H (.int j)) : Ez K (tOp (rNeD K) ta tb) σ H (.bool (!decide (i = j))) := by
  have h := z_neD ha hb
  rw [eqv_int] at h; exact h
end
abbrev s_is_integer : Stmt := topS 12
abbrev N_is_integer : List Str := ["value"]
theorem sc_is_integer : FnScope N_is_integer ["value"] (defScope s_is_integer) := ⟨rfl, rfl, rfl, by decide +kernel, rfl, by decide +kernel, by decide +kernel⟩
theorem b_is_integer (T : Txt K mg) : Binds K (T.fd 0) ["value"] [] := (T.F 0 _ rfl).binds (ps := ["value"]) fun _ _ _ _ _ _ us hl => match us, hl with | [_], _ => rfl

theorem ok_is_integer (T : Txt K mg) : FnOk P w K mg base CX0 1 (T.fa 0) (T.fd 0) ["value"] (spD K fun ds r => ∃ i : Int, ds = [.int i] ∧ r = .bool true) := by
  refine okD (T.F 0 _ rfl) sc_is_integer (fun ds r h => ?_) (fun cdv A outer s H vs Q E ds r hr hv hp q => ?_)
  · obtain ⟨i, rfl, _⟩ := h; rfl
  · obtain ⟨i, rfl, rfl⟩ := hp
    obtain ⟨x, rfl, dx⟩ := one_of hv
    refine ⟨_, (pss_one (ps_ret (pe_and (pe_callB (call_isiQ K) (by rfl) (T.n "isinstance") (by decide +kernel) (pa_cons (pv 0) (pa_cons (pe_bltn (v := .ty "int") (by rfl) (T.n "int") (by decide +kernel) rfl) pa_nil))) (pe_one (pe_not (pe_callB (call_isiQ K) (by rfl) (T.n "isinstance") (by decide +kernel) (pa_cons (pv 0) (pa_cons (pe_bltn (v := .ty "bool") (by rfl) (T.n "bool") (by decide +kernel) rfl) pa_nil)))))))), ?_⟩
    refine s_ret (d := .bool true) (Ez.en ?_) q
    exact z_andV (b := true) (c := true) (z_isi (z_var (i := 0) rfl dx)) fun _ => z_notV (b := false) (z_isi (z_var (i := 0) rfl dx))
abbrev s_is_fraction : Stmt := topS 15
abbrev N_is_fraction : List Str := ["value"]
theorem sc_is_fraction : FnScope N_is_fraction ["value"] (defScope s_is_fraction) := ⟨rfl, rfl, rfl, by decide +kernel, rfl, by decide +kernel, by decide +kernel⟩
theorem b_is_fraction (T : Txt K mg) : Binds K (T.fd 2) ["value"] [] := (T.F 2 _ rfl).binds (ps := ["value"]) fun _ _ _ _ _ _ us hl => match us, hl with | [_], _ => rfl

theorem den_pos (q : Rat) : (1 : Int) ≤ q.den := by have := q.den_pos; omega
theorem ok_is_fraction (T : Txt K mg) : FnOk P w K mg base CX0 2 (T.fa 2) (T.fd 2) ["value"] (spD K fun ds r => ∃ q : Rat, ds = [frD q] ∧ r = .bool true) := by
  refine okD (T.F 2 _ rfl) sc_is_fraction (fun ds r h => ?_) (fun cdv A outer s H vs Q E ds r hr hv hp q => ?_)
  · obtain ⟨i, rfl, _⟩ := h; rfl
  · obtain ⟨f, rfl, rfl⟩ := hp
    obtain ⟨x, rfl, dx⟩ := one_of hv
    refine ⟨_, (pss_cons (ps_if (PW.pt (pw_or (pt_not (pt_val (pe_callB (call_isiQ K) (by rfl) (T.n "isinstance") (by decide +kernel) (pa_cons (pv 0) (pa_cons (pe_bltn (v := .ty "tuple") (by rfl) (T.n "tuple") (by decide +kernel) rfl) pa_nil))))) (pw_or1 (pt_cmpR (op_neK K hr.units) (pe_callB (call_lenK K) (by rfl) (T.n "len") PySem.boot_len (pa_cons (pv 0) pa_nil)) pe_int (nomark _)))))
       (pss_one (ps_ret pe_bl))
       pss_nil)
      (pss_cons (ps_if (PW.pt (pw_or (pt_not (pt_val (pe_call (ok_is_integer T) (hr.mono (by decide)) (by rfl) (T.g 0 _ rfl) (T.F 0 _ rfl).kp (b_is_integer T) .nil pass0 (pa_cons (pe_ix (ix_seqK K) (pv 0) pe_int (fun _ _ => rfl)) pa_nil)))) (pw_or1 (pt_not (pt_val (pe_call (ok_is_integer T) (hr.mono (by decide)) (by rfl) (T.g 0 _ rfl) (T.F 0 _ rfl).kp (b_is_integer T) .nil pass0 (pa_cons (pe_ix (ix_seqK K) (pv 0) pe_int (fun _ _ => rfl)) pa_nil)))))))
       (pss_one (ps_ret pe_bl))
       pss_nil)
      (pss_one (ps_ret (pe_and (pe_cmpR op_ge (pe_ix (ix_seqK K) (pv 0) pe_int (fun _ _ => rfl)) pe_int (nomark _)) (pe_one (pe_cmpR (op_eqK K hr.units) (pe_callBfun cr_gcd (by rfl) T.gcd (pa_cons (pe_ix (ix_seqK K) (pv 0) pe_int (fun _ _ => rfl)) (pa_cons (pe_ix (ix_seqK K) (pv 0) pe_int (fun _ _ => rfl)) pa_nil))) pe_int (nomark _)))))))), ?_⟩
    have zx : ∀ {H'}, Same H H' → Ez K (tVar 0) (start N_is_fraction [x]) H' (frD f) := fun s => z_var (i := 0) rfl (L2.Dp.mono s dx)
    refine s_pass ?_ fun H1 s1 => ?_
    · exact t_or (b := false) (c := false) (t_not (b := true) (t_val (z_isi (zx (Same.refl _))))) fun _ => t_val (z_neI (i := 2) (j := 2) (z_lenT (ds := [.int f.num, .int f.den]) (zx (Same.refl _))) z_int)
    refine s_pass ?_ fun H2 s2 => ?_
    · exact t_or (b := false) (c := false) (t_not (b := true) (t_val (z_call (a_one (z_num (zx s1))) ⟨_, rfl, rfl⟩))) fun _ => t_not (b := true) (t_val (z_call (a_one (z_den (zx s1))) ⟨_, rfl, rfl⟩))
    have zy := zx (s1.trans s2)
    have e : (decide (1 ≤ (f.den : Int)) && decide (((Nat.gcd f.num.natAbs (f.den : Int).natAbs : Nat) : Int) = 1)) = true := by
      have h1 := den_pos f
      have h2 : Nat.gcd f.num.natAbs (f.den : Int).natAbs = 1 := by rw [Int.natAbs_natCast]; exact f.reduced
      rw [h2, decide_eq_true h1]; rfl
    refine s_ret (d := .bool true) (Ez.en ?_) fun v H' s d => q v H' ((s1.trans s2).trans s) (Dn.anti (s1.trans s2) d)
    rw [← e]
    exact z_andV (z_cmp (p := fun i j => decide (j ≤ i)) (z_den zy) z_int) fun _ => z_eqI (z_gcd (z_num zy) (z_den zy)) z_int
end
end Ck
end

section
set_option Elab.async false
set_option linter.all false
set_option maxRecDepth 100000
set_option maxHeartbeats 2000000
/-! fractions and rows of them. -/
namespace Ck
open PySem PySem.Spec PyProof.Rows L2
theorem mulok {i j : Int} {a b : Nat} (hi : i.natAbs < 2 ^ a) (hj : j.natAbs < 2 ^ b) (h : a + b ≤ 900000) : IntMulOk i j :=
  CMulW.ok (wide_mul (a := a + 1) (b := b + 1) (lt_pw hi (by omega)) (lt_pw hj (by omega)) (by omega) (by omega) (by omega))
theorem natAbs_add_lt {i j : Int} {a : Nat} (hi : i.natAbs < 2 ^ a) (hj : j.natAbs < 2 ^ a) : (i + j).natAbs < 2 ^ (a + 1) := by
  have := lt_add hi hj
  omega
theorem natAbs_sub_lt {i j : Int} {a : Nat} (hi : i.natAbs < 2 ^ a) (hj : j.natAbs < 2 ^ a) : (i - j).natAbs < 2 ^ (a + 1) := by
  have := lt_add hi hj
  omega
theorem natAbs_mul_lt {i j : Int} {a b : Nat} (hi : i.natAbs < 2 ^ a) (hj : j.natAbs < 2 ^ b) : (i * j).natAbs < 2 ^ (a + b) := by
  rw [Int.natAbs_mul]; exact lt_mul hi hj
section
variable {P : Program} {w : World} {K : Fg} {mg : Str → Option Value} {base : Heap}
section
variable {σ : L2.St} {H Hb : Hp} {ta tb te : TE} {D : Ends} {rest : TS} {d : PyData} {ds : List PyData}
theorem s_set1 {i : Nat} (h : Ez K ta σ H d) (k : ∀ v H', Same H H' → Dp K H' v d → D.nx (σ.set i (some v)) H') : tAsg ta (gName i) D σ H := h H (Same.refl _) _ fun v H2 s2 dv => k v H2 s2 dv
theorem s_setN1 {i : Nat} (h : En K ta σ H d) (k : ∀ v H', Same H H' → Dn K H H' v d → D.nx (σ.set i (some v)) H') : tAsg ta (gName i) D σ H := h H (Same.refl _) _ fun v H2 s2 dv => k v H2 s2 dv
theorem s_expr1 (h : Ez K ta σ H d) (k : ∀ H', Same H H' → D.nx σ H') : tDrop ta D σ H := h H (Same.refl _) _ fun v H2 s2 dv => k H2 s2
/-- x = [] -/
theorem s_setnil {i : Nat} (k : ∀ a, H a = none → rest D (σ.set i (some (.ref a))) (upd H a (.lst []))) : tSeq (tAsg (tLst tNil) (gName i)) rest D σ H := ⟨Nat.zero_le _, fun p np => k p np⟩

/-- all but one address stays, nothing is lost -/
def SameX (m : Addr) (H H' : Hp) : Prop := (∀ a x, a ≠ m → H a = some x → H' a = some x) ∧ ∀ a, H' a = none → H a = none
theorem SameX.of {m : Addr} {H H' : Hp} (s : Same H H') : SameX m H H' := ⟨fun a x _ e => s a x e, fun _ => s.free⟩
theorem SameX.trans {m : Addr} {H H1 H2 : Hp} (a : SameX m H H1) (b : SameX m H1 H2) : SameX m H H2 := ⟨fun c x n e => b.1 c x n (a.1 c x n e), fun c e => a.2 c (b.2 c e)⟩
theorem SameX.upd {m : Addr} {H : Hp} {o : HO} : SameX m H (upd H m o) := ⟨fun a x n e => by rw [upd_ne n]; exact e, fun a e => (upd_none e).2⟩
variable {Hf : Hp}
theorem app_core {m : Nat} {a : Addr} {Q : VK} (hm : σ[m]? = some (some (.ref a))) (hD : Hb a = none) (I : LcF K Hb Hf a ds H) (hl : ds.length ≤ 1000) (he : En K te σ H d) (k : ∀ v H', LcF K Hb Hf a (ds ++ [d]) H' → SameX a H H' → Q v H') : tBM K "list" rAppend (tVar m) (tCons te tNil) σ H Q := by
  obtain ⟨acc, h1, h2⟩ := I.acc
  refine ⟨.ref a, hm, .inl ⟨rfl, _, .inl (.inl h1)⟩, he H (Same.refl _) _ fun v H2 s2 dv => ?_⟩
  obtain ⟨acc2, e2, l2, I2⟩ := I.grow hD s2 dv hl
  exact ⟨a, acc2, v, rfl, rfl, e2, l2, k _ _ I2 ((SameX.of s2).trans .upd)⟩
theorem s_app {m : Nat} {a : Addr} (hm : σ[m]? = some (some (.ref a))) (hD : Hb a = none) (I : LcF K Hb Hf a ds H) (hl : ds.length ≤ 1000) (he : En K te σ H d) (k : ∀ H', LcF K Hb Hf a (ds ++ [d]) H' → SameX a H H' → D.nx σ H') : tDrop (tBM K "list" rAppend (tVar m) (tCons te tNil)) D σ H :=
  app_core hm hD I hl he fun _ H' I' x => k H' I' x
theorem s_appS {m : Nat} {a : Addr} (hm : σ[m]? = some (some (.ref a))) (hD : Hb a = none) (I : LcF K Hb Hf a ds H) (hl : ds.length ≤ 1000) (he : En K te σ H d) (k : ∀ H', LcF K Hb Hf a (ds ++ [d]) H' → SameX a H H' → rest D σ H') : tSeq (tDrop (tBM K "list" rAppend (tVar m) (tCons te tNil))) rest D σ H :=
  app_core hm hD I hl he fun _ H' I' x => k H' I' x
theorem sqT_X {m b : Addr} {H H' : Hp} {ys xs : List V} (hl : H m = some (.lst ys)) (s : SameX m H H') (q : SqT K H b xs) : SqT K H' b xs := by
  rcases q with (q | ⟨o, q⟩) | q
  · exact .inl (.inl (s.1 _ _ (ne_of q hl (by intro z; cases z)) q))
  · exact .inl (.inr ⟨o, s.1 _ _ (ne_of q hl (by intro z; cases z)) q⟩)
  · exact .inr q
/-- a list of flat things beside one that changes -/
theorem LcF.other {a m : Addr} {H' : Hp} (I : LcF K Hb Hf a ds H) (f : flatDs ds = true) (hm : Hb m = none) (ha : a ≠ m) {ys : List V} (hl : H m = some (.lst ys)) (s : SameX m H H') : LcF K Hb Hf a ds H' := by
  obtain ⟨acc, h1, h2⟩ := I.acc
  exact ⟨fun b o z => s.1 b o (ne_of_none z hm) (I.same _ _ z), fun b e => I.fr b (s.2 b e), I.sub, acc, s.1 _ _ ha h1, dpAllN (fun b xs => sqT_X hl s) _ _ f h2.dp⟩
/-- any list whose entries are new beside the one that changes -/
theorem LcF.otherL {a m : Addr} {H' : Hp} {o : HO} (I : LcF K Hb Hf a ds H) (hf : Hf m = some o) (hm : Hb m = none) (ha : a ≠ m) {ys : List V} (hl : H m = some (.lst ys)) (s : SameX m H H') : LcF K Hb Hf a ds H' := by
  obtain ⟨acc, h1, h2⟩ := I.acc
  refine ⟨fun b o z => s.1 b o (ne_of_none z hm) (I.same _ _ z), fun b e => I.fr b (s.2 b e), I.sub, acc, s.1 _ _ ha h1, h2.mv (fun b xs => sqT_X hl s) fun b xs z1 z2 => ⟨z1, s.1 _ _ (fun e => ?_) z2⟩⟩
  have := (upd_none z1).2
  rw [e, hf] at this; cases this
/-- a further list is made: the entries of the one are new to it, too -/
theorem LcF.beside {a p : Addr} {o o' : HO} (I : LcF K Hb Hf a ds H) (hp : H p = none) : LcF K Hb (L2.upd Hf p o) a ds (L2.upd H p o') := by
  obtain ⟨acc, h1, h2⟩ := I.acc
  refine ⟨I.same.trans (same_new hp), fun b e => ?_, fun b e => I.sub b (upd_none e).2, acc, same_new hp _ _ h1, DnAll.anti' (fun b e => ?_) (DnAll.fresh (o := o) (o' := o') hp h2)⟩
  · obtain ⟨e1, e2⟩ := upd_none e
    exact upd_none' e1 (I.fr b e2)
  · obtain ⟨e1, e2⟩ := upd_none e
    obtain ⟨e3, e4⟩ := upd_none e2
    exact upd_none' e3 (upd_none' e1 e4)
theorem z_neg {i : Int} (ha : Ez K ta σ H (.int i)) : Ez K (tUn (rU fun i => .int (-i)) ta) σ H (.int (-i)) := fun H1 s Q q => ha H1 s _ fun v H2 s2 dv => by
  cases dv; exact ⟨i, rfl, q _ H2 s2 (.int _)⟩
theorem z_fdiv {i j : Int} (ha : Ez K ta σ H (.int i)) (hb : Ez K tb σ H (.int j)) (hc : CDivX i j) : Ez K (tOp (rI CDivX fun i j => .int (i.fdiv j)) ta tb) σ H (.int (i.fdiv j)) := z_intC ha hb hc
/-- the entries of a list made by a function -/
def tab (n : Nat) (f : Nat → PyData) : List PyData := (rg n).map f
theorem tab_len {n : Nat} {f : Nat → PyData} : (tab n f).length = n := by unfold tab; rw [List.length_map, List.length_range]
theorem tab_at {n i : Nat} {f : Nat → PyData} (h : i < n) : (tab n f)[i]? = some (f i) := by
  unfold tab; rw [List.getElem?_map, List.getElem?_range h]; rfl
theorem tab_getD {n i : Nat} {f : Nat → PyData} (h : i < n) : (tab n f).getD i .none = f i := by
  rw [List.getD_eq_getElem?_getD, tab_at h]; rfl
theorem tab_succ {n : Nat} {f : Nat → PyData} : tab (n + 1) f = tab n f ++ [f n] := by
  unfold tab; rw [show rg (n + 1) = rg n ++ [n] from List.range_succ, List.map_append]; rfl
theorem tab_congr {n : Nat} {f g : Nat → PyData} (h : ∀ i, i < n → f i = g i) : tab n f = tab n g := by
  unfold tab
  exact List.map_congr_left fun i hi => h i (List.mem_range.mp hi)
end
abbrev s_is_amount : Stmt := topS 16
abbrev N_is_amount : List Str := ["value"]
theorem sc_is_amount : FnScope N_is_amount ["value"] (defScope s_is_amount) := ⟨rfl, rfl, rfl, by decide +kernel, rfl, by decide +kernel, by decide +kernel⟩
theorem b_is_amount (T : Txt K mg) : Binds K (T.fd 3) ["value"] [] := (T.F 3 _ rfl).binds (ps := ["value"]) fun _ _ _ _ _ _ us hl => match us, hl with | [_], _ => rfl

theorem ok_is_amount (T : Txt K mg) : FnOk P w K mg base CX0 3 (T.fa 3) (T.fd 3) ["value"] (spD K fun ds r => ∃ q : Rat, ds = [frD q] ∧ r = .bool (decide (0 ≤ q.num))) := by
  refine okD (T.F 3 _ rfl) sc_is_amount (fun ds r h => ?_) (fun cdv A outer s H vs Q E ds r hr hv hp q => ?_)
  · obtain ⟨i, rfl, _⟩ := h; rfl
  · obtain ⟨f, rfl, rfl⟩ := hp
    obtain ⟨x, rfl, dx⟩ := one_of hv
    refine ⟨_, (pss_one (ps_ret (pe_and (pe_call (ok_is_fraction T) (hr.mono (by decide)) (by rfl) (T.g 2 _ rfl) (T.F 2 _ rfl).kp (b_is_fraction T) .nil pass0 (pa_cons (pv 0) pa_nil)) (pe_one (pe_cmpR op_ge (pe_ix (ix_seqK K) (pv 0) pe_int (fun _ _ => rfl)) pe_int (nomark _)))))), ?_⟩
    have zx : Ez K (tVar 0) (start N_is_amount [x]) H (frD f) := z_var (i := 0) rfl dx
    refine s_ret (d := .bool _) (Ez.en ?_) q
    exact z_andV (b := true) (c := decide (0 ≤ f.num)) (z_call (a_one zx) ⟨_, rfl, rfl⟩) fun _ => z_cmp (p := fun i j => decide (j ≤ i)) (z_num zx) z_int
abbrev s_is_share : Stmt := topS 17
abbrev N_is_share : List Str := ["value"]
theorem sc_is_share : FnScope N_is_share ["value"] (defScope s_is_share) := ⟨rfl, rfl, rfl, by decide +kernel, rfl, by decide +kernel, by decide +kernel⟩
theorem b_is_share (T : Txt K mg) : Binds K (T.fd 4) ["value"] [] := (T.F 4 _ rfl).binds (ps := ["value"]) fun _ _ _ _ _ _ us hl => match us, hl with | [_], _ => rfl

theorem ok_is_share (T : Txt K mg) : FnOk P w K mg base CX0 3 (T.fa 4) (T.fd 4) ["value"] (spD K fun ds r => ∃ q : Rat, ds = [frD q] ∧ r = .bool (decide (0 ≤ q.num) && decide (q.num ≤ q.den))) := by
  refine okD (T.F 4 _ rfl) sc_is_share (fun ds r h => ?_) (fun cdv A outer s H vs Q E ds r hr hv hp q => ?_)
  · obtain ⟨i, rfl, _⟩ := h; rfl
  · obtain ⟨f, rfl, rfl⟩ := hp
    obtain ⟨x, rfl, dx⟩ := one_of hv
    refine ⟨_, (pss_one (ps_ret (pe_and (pe_call (ok_is_fraction T) (hr.mono (by decide)) (by rfl) (T.g 2 _ rfl) (T.F 2 _ rfl).kp (b_is_fraction T) .nil pass0 (pa_cons (pv 0) pa_nil)) (pe_one (pe_chain op_le op_le pe_int (pe_ix (ix_seqK K) (pv 0) pe_int (fun _ _ => rfl)) (pe_ix (ix_seqK K) (pv 0) pe_int (fun _ _ => rfl))))))), ?_⟩
    have zx : Ez K (tVar 0) (start N_is_share [x]) H (frD f) := z_var (i := 0) rfl dx
    refine s_ret (d := .bool _) (Ez.en ?_) q
    refine z_andV (b := true) (c := decide (0 ≤ f.num) && decide (f.num ≤ f.den)) (z_call (a_one zx) ⟨_, rfl, rfl⟩) fun _ => ?_
    exact z_chain (p := fun i j => decide (i ≤ j)) (p' := fun i j => decide (i ≤ j)) z_int (z_num zx) (z_den zx)
abbrev s_need_fraction : Stmt := topS 18
abbrev N_need_fraction : List Str := ["value"]
theorem sc_need_fraction : FnScope N_need_fraction ["value"] (defScope s_need_fraction) := ⟨rfl, rfl, rfl, by decide +kernel, rfl, by decide +kernel, by decide +kernel⟩
theorem b_need_fraction (T : Txt K mg) : Binds K (T.fd 5) ["value"] [] := (T.F 5 _ rfl).binds (ps := ["value"]) fun _ _ _ _ _ _ us hl => match us, hl with | [_], _ => rfl

theorem ok_need_fraction (T : Txt K mg) : FnOk P w K mg base CX0 3 (T.fa 5) (T.fd 5) ["value"] (spD K fun ds r => ∃ q : Rat, ds = [frD q] ∧ r = .none) := by
  refine okD (T.F 5 _ rfl) sc_need_fraction (fun ds r h => ?_) (fun cdv A outer s H vs Q E ds r hr hv hp q => ?_)
  · obtain ⟨i, rfl, _⟩ := h; rfl
  · obtain ⟨f, rfl, rfl⟩ := hp
    obtain ⟨x, rfl, dx⟩ := one_of hv
    refine ⟨_, (pss_one (ps_if (pt_not (pt_val (pe_call (ok_is_fraction T) (hr.mono (by decide)) (by rfl) (T.g 2 _ rfl) (T.F 2 _ rfl).kp (b_is_fraction T) .nil pass0 (pa_cons (pv 0) pa_nil))))
       (pss_one ps_never)
       pss_nil)), ?_⟩
    refine s_pass1 ?_ fun H1 s1 => q _ _ s1 .non
    exact t_not (b := true) (t_val (z_call (a_one (z_var (i := 0) rfl dx)) ⟨_, rfl, rfl⟩))
abbrev s_need_share : Stmt := topS 19
abbrev N_need_share : List Str := ["value"]
theorem sc_need_share : FnScope N_need_share ["value"] (defScope s_need_share) := ⟨rfl, rfl, rfl, by decide +kernel, rfl, by decide +kernel, by decide +kernel⟩
theorem b_need_share (T : Txt K mg) : Binds K (T.fd 6) ["value"] [] := (T.F 6 _ rfl).binds (ps := ["value"]) fun _ _ _ _ _ _ us hl => match us, hl with | [_], _ => rfl

theorem ok_need_share (T : Txt K mg) : FnOk P w K mg base CX0 4 (T.fa 6) (T.fd 6) ["value"] (spD K fun ds r => ∃ q : Rat, ds = [frD q] ∧ 0 ≤ q ∧ q ≤ 1 ∧ r = .none) := by
  refine okD (T.F 6 _ rfl) sc_need_share (fun ds r h => ?_) (fun cdv A outer s H vs Q E ds r hr hv hp q => ?_)
  · obtain ⟨i, rfl, _⟩ := h; rfl
  · obtain ⟨f, rfl, h0, h1, rfl⟩ := hp
    obtain ⟨x, rfl, dx⟩ := one_of hv
    refine ⟨_, (pss_one (ps_if (pt_not (pt_val (pe_call (ok_is_share T) (hr.mono (by decide)) (by rfl) (T.g 4 _ rfl) (T.F 4 _ rfl).kp (b_is_share T) .nil pass0 (pa_cons (pv 0) pa_nil))))
       (pss_one ps_never)
       pss_nil)), ?_⟩
    refine s_pass1 ?_ fun H1 s1 => q _ _ s1 .non
    refine t_not (b := true) (t_val (z_call (a_one (z_var (i := 0) rfl dx)) ⟨_, rfl, ?_⟩))
    have e1 : 0 ≤ f.num := Rat.num_nonneg.mpr h0
    have e2 : f.num ≤ f.den := by
      have := (Rat.le_iff f 1).mp h1
      simpa using this
    rw [decide_eq_true e1, decide_eq_true e2]; rfl
abbrev s_fraction : Stmt := topS 20
abbrev N_fraction : List Str := ["above", "below", "divisor"]
theorem sc_fraction : FnScope N_fraction ["above", "below"] (defScope s_fraction) := ⟨rfl, rfl, rfl, by decide +kernel, rfl, by decide +kernel, by decide +kernel⟩
theorem b_fraction (T : Txt K mg) : Binds K (T.fd 7) ["above", "below"] [] := (T.F 7 _ rfl).binds (ps := ["above", "below"]) fun _ _ _ _ _ _ us hl => match us, hl with | [_, _], _ => rfl

theorem ok_fraction (T : Txt K mg) : FnOk P w K mg base CX0 1 (T.fa 7) (T.fd 7) ["above", "below"] (spD K fun ds r => ∃ a b : Int, ds = [.int a, .int b] ∧ b ≠ 0 ∧ b.natAbs < 2 ^ 9000 ∧ r = frD ((a : Rat) / b)) := by
  refine okD (T.F 7 _ rfl) sc_fraction (fun ds r h => ?_) (fun cdv A outer s H vs Q E ds r hr hv hp q => ?_)
  · obtain ⟨a, b, rfl, _⟩ := h; rfl
  · obtain ⟨a, b, rfl, hb, h9, rfl⟩ := hp
    obtain ⟨x, y, rfl, dx, dy⟩ := two_of hv
    cases dx; cases dy
    refine ⟨_, (pss_cons (ps_if (pt_cmpR (op_eqK K hr.units) (pv 1) pe_int (nomark _))
       (pss_one ps_never)
       pss_nil)
      (pss_cons (ps_set (i := 2) sc_fraction.nd rfl (Or.inl rfl) (pe_callBfun cr_gcd (by rfl) T.gcd (pa_cons (pv 0) (pa_cons (pv 1) pa_nil))))
      (pss_cons (ps_if (pt_cmpR op_lt (pv 1) pe_int (nomark _))
       (pss_one (ps_set (i := 2) sc_fraction.nd rfl (Or.inl rfl) (pe_un un_neg (pv 2))))
       pss_nil)
      (pss_one (ps_ret (pe_tup (pa_cons (pe_op op_fdivX (pv 0) (pv 2)) (pa_cons (pe_op op_fdivX (pv 1) (pv 2)) pa_nil)))))))), ?_⟩
    have za : ∀ {σ : L2.St} {H'}, σ[0]? = some (some (.int a)) → Ez K (tVar 0) σ H' (.int a) := fun e => z_var e (.int a)
    have zb : ∀ {σ : L2.St} {H'}, σ[1]? = some (some (.int b)) → Ez K (tVar 1) σ H' (.int b) := fun e => z_var e (.int b)
    refine s_pass ?_ fun H1 s1 => ?_
    · rw [show false = decide (b = 0) from (decide_eq_false hb).symm]
      exact t_val (z_eqI (zb rfl) z_int)
    refine s_set (z_gcd (za rfl) (zb rfl)) fun v H2 s2 dv => ?_
    cases dv
    have ret : ∀ (g : Int) (H' : Hp), g = dvs a b → Same H H' → tRet (tTup (tCons (tOp (rI CDivX fun i j => .int (i.fdiv j)) (tVar 0) (tVar 2)) (tCons (tOp (rI CDivX fun i j => .int (i.fdiv j)) (tVar 1) (tVar 2)) tNil))) { nx := fun _ H' => Q .non H', rt := Q } [some (.int a), some (.int b), some (.int g)] H' := by
      intro g H' hg s
      subst hg
      have hc : ∀ i : Int, CDivX i (dvs a b) := fun i => ⟨dvs_ne hb, log2_lt (by decide) (Nat.lt_of_le_of_lt (by rw [dvs_abs]; exact Nat.gcd_le_right _ (Int.natAbs_pos.mpr hb)) h9)⟩
      have zg : Ez K (tVar 2) [some (.int a), some (.int b), some (.int (dvs a b))] H' (.int (dvs a b)) := z_var rfl (.int _)
      refine s_ret (n_tup (an_cons (z_fdiv (za rfl) zg (hc _)).en (an_cons (z_fdiv (zb rfl) zg (hc _)).en an_nil))) fun v H3 s3 d => ?_
      obtain ⟨e1, e2⟩ := frac_pair a b hb
      rw [e1, e2] at d
      exact q v H3 (s.trans s3) (Dn.anti s d)
    refine s_if (b := decide (b < 0)) (t_val (z_cmp (p := fun i j => decide (i < j)) (zb rfl) z_int)) (fun hn H3 s3 => ?_) (fun hn H3 s3 => ?_)
    · have hn := of_decide_eq_true hn
      refine s_set1 (K := K) (z_neg (z_var (i := 2) rfl (.int _))) fun v H4 s4 dv => ?_
      cases dv
      exact ret _ H4 (by unfold dvs; rw [if_pos hn]) (((s1.trans s2).trans s3).trans s4)
    · have hn := of_decide_eq_false hn
      exact ret _ H3 (by unfold dvs; rw [if_neg hn]) ((s1.trans s2).trans s3)
/-! ### plus, less, times -/
theorem den_lt {p q : Rat} {a b : Nat} (hp : Bd a p) (hq : Bd b q) (h : a + b ≤ 8000) : (((p.den : Int) * (q.den : Int) : Int)).natAbs < 2 ^ 9000 := by
  rw [Int.natAbs_mul, Int.natAbs_natCast, Int.natAbs_natCast]
  exact lt_pw (lt_mul hp.2 hq.2) (by omega)
theorem den_ne0 {p q : Rat} : ((p.den : Int) * (q.den : Int) : Int) ≠ 0 := by
  have h1 := p.den_pos; have h2 := q.den_pos
  exact Int.mul_ne_zero (by omega) (by omega)
theorem nat_abs {n k : Nat} (h : n < 2 ^ k) : ((n : Nat) : Int).natAbs < 2 ^ k := by rw [Int.natAbs_natCast]; exact h
def P2 (op : Rat → Rat → Rat) : List PyData → PyData → Prop := fun ds r => ∃ (p q : Rat) (a b : Nat), ds = [frD p, frD q] ∧ Bd a p ∧ Bd b q ∧ a + b ≤ 8000 ∧ r = frD (op p q)
abbrev s_plus : Stmt := topS 21
abbrev N_plus : List Str := ["one", "other"]
theorem sc_plus : FnScope N_plus ["one", "other"] (defScope s_plus) := ⟨rfl, rfl, rfl, by decide +kernel, rfl, by decide +kernel, by decide +kernel⟩
theorem b_plus (T : Txt K mg) : Binds K (T.fd 8) ["one", "other"] [] := (T.F 8 _ rfl).binds (ps := ["one", "other"]) fun _ _ _ _ _ _ us hl => match us, hl with | [_, _], _ => rfl

theorem ok_plus (T : Txt K mg) : FnOk P w K mg base CX0 4 (T.fa 8) (T.fd 8) ["one", "other"] (spD K (P2 fun p q => p + q)) := by
  refine okD (T.F 8 _ rfl) sc_plus (fun ds r h => ?_) (fun cdv A outer s H vs Q E ds r hr hv hp q => ?_)
  · obtain ⟨a, b, _, _, rfl, _⟩ := h; rfl
  · obtain ⟨x, y, a, b, rfl, hx, hy, hab, rfl⟩ := hp
    obtain ⟨u, v, rfl, du, dv⟩ := two_of hv
    refine ⟨_, (pss_cons (ps_expr (pe_call (ok_need_fraction T) (hr.mono (by decide)) (by rfl) (T.g 5 _ rfl) (T.F 5 _ rfl).kp (b_need_fraction T) .nil pass0 (pa_cons (pv 0) pa_nil)))
      (pss_cons (ps_expr (pe_call (ok_need_fraction T) (hr.mono (by decide)) (by rfl) (T.g 5 _ rfl) (T.F 5 _ rfl).kp (b_need_fraction T) .nil pass0 (pa_cons (pv 1) pa_nil)))
      (pss_one (ps_ret (pe_call (ok_fraction T) (hr.mono (by decide)) (by rfl) (T.g 7 _ rfl) (T.F 7 _ rfl).kp (b_fraction T) .nil pass0 (pa_cons (pe_op op_add (pe_op op_mulX (pe_ix (ix_seqK K) (pv 0) pe_int (fun _ _ => rfl)) (pe_ix (ix_seqK K) (pv 1) pe_int (fun _ _ => rfl))) (pe_op op_mulX (pe_ix (ix_seqK K) (pv 1) pe_int (fun _ _ => rfl)) (pe_ix (ix_seqK K) (pv 0) pe_int (fun _ _ => rfl)))) (pa_cons (pe_op op_mulX (pe_ix (ix_seqK K) (pv 0) pe_int (fun _ _ => rfl)) (pe_ix (ix_seqK K) (pv 1) pe_int (fun _ _ => rfl))) pa_nil))))))), ?_⟩
    have zx : ∀ {H'}, Same H H' → Ez K (tVar 0) (start N_plus [u, v]) H' (frD x) := fun s => z_var (i := 0) rfl (L2.Dp.mono s du)
    have zy : ∀ {H'}, Same H H' → Ez K (tVar 1) (start N_plus [u, v]) H' (frD y) := fun s => z_var (i := 1) rfl (L2.Dp.mono s dv)
    refine s_expr (z_call (a_one (zx (Same.refl _))) ⟨_, rfl, rfl⟩) fun H1 s1 => ?_
    refine s_expr (z_call (a_one (zy s1)) ⟨_, rfl, rfl⟩) fun H2 s2 => ?_
    have s := s1.trans s2
    refine s_ret (d := frD (x + y)) (n_call (a_cons (z_add (z_mul (z_num (zx s)) (z_den (zy s)) (mulok hx.1 (nat_abs hy.2) (by omega))) (z_mul (z_num (zy s)) (z_den (zx s)) (mulok hy.1 (nat_abs hx.2) (by omega)))) (a_one (z_mul (z_den (zx s)) (z_den (zy s)) (mulok (nat_abs hx.2) (nat_abs hy.2) (by omega))))) ⟨_, _, rfl, den_ne0, den_lt hx hy hab, ?_⟩) fun v H' s3 d => q v H' (s.trans s3) (Dn.anti s d)
    rw [q_add]
abbrev s_less : Stmt := topS 22
abbrev N_less : List Str := ["one", "other"]
theorem sc_less : FnScope N_less ["one", "other"] (defScope s_less) := ⟨rfl, rfl, rfl, by decide +kernel, rfl, by decide +kernel, by decide +kernel⟩
theorem b_less (T : Txt K mg) : Binds K (T.fd 9) ["one", "other"] [] := (T.F 9 _ rfl).binds (ps := ["one", "other"]) fun _ _ _ _ _ _ us hl => match us, hl with | [_, _], _ => rfl

theorem ok_less (T : Txt K mg) : FnOk P w K mg base CX0 4 (T.fa 9) (T.fd 9) ["one", "other"] (spD K (P2 fun p q => p - q)) := by
  refine okD (T.F 9 _ rfl) sc_less (fun ds r h => ?_) (fun cdv A outer s H vs Q E ds r hr hv hp q => ?_)
  · obtain ⟨a, b, _, _, rfl, _⟩ := h; rfl
  · obtain ⟨x, y, a, b, rfl, hx, hy, hab, rfl⟩ := hp
    obtain ⟨u, v, rfl, du, dv⟩ := two_of hv
    refine ⟨_, (pss_cons (ps_expr (pe_call (ok_need_fraction T) (hr.mono (by decide)) (by rfl) (T.g 5 _ rfl) (T.F 5 _ rfl).kp (b_need_fraction T) .nil pass0 (pa_cons (pv 0) pa_nil)))
      (pss_cons (ps_expr (pe_call (ok_need_fraction T) (hr.mono (by decide)) (by rfl) (T.g 5 _ rfl) (T.F 5 _ rfl).kp (b_need_fraction T) .nil pass0 (pa_cons (pv 1) pa_nil)))
      (pss_one (ps_ret (pe_call (ok_fraction T) (hr.mono (by decide)) (by rfl) (T.g 7 _ rfl) (T.F 7 _ rfl).kp (b_fraction T) .nil pass0 (pa_cons (pe_op op_sub (pe_op op_mulX (pe_ix (ix_seqK K) (pv 0) pe_int (fun _ _ => rfl)) (pe_ix (ix_seqK K) (pv 1) pe_int (fun _ _ => rfl))) (pe_op op_mulX (pe_ix (ix_seqK K) (pv 1) pe_int (fun _ _ => rfl)) (pe_ix (ix_seqK K) (pv 0) pe_int (fun _ _ => rfl)))) (pa_cons (pe_op op_mulX (pe_ix (ix_seqK K) (pv 0) pe_int (fun _ _ => rfl)) (pe_ix (ix_seqK K) (pv 1) pe_int (fun _ _ => rfl))) pa_nil))))))), ?_⟩
    have zx : ∀ {H'}, Same H H' → Ez K (tVar 0) (start N_less [u, v]) H' (frD x) := fun s => z_var (i := 0) rfl (L2.Dp.mono s du)
    have zy : ∀ {H'}, Same H H' → Ez K (tVar 1) (start N_less [u, v]) H' (frD y) := fun s => z_var (i := 1) rfl (L2.Dp.mono s dv)
    refine s_expr (z_call (a_one (zx (Same.refl _))) ⟨_, rfl, rfl⟩) fun H1 s1 => ?_
    refine s_expr (z_call (a_one (zy s1)) ⟨_, rfl, rfl⟩) fun H2 s2 => ?_
    have s := s1.trans s2
    refine s_ret (d := frD (x - y)) (n_call (a_cons (z_sub (z_mul (z_num (zx s)) (z_den (zy s)) (mulok hx.1 (nat_abs hy.2) (by omega))) (z_mul (z_num (zy s)) (z_den (zx s)) (mulok hy.1 (nat_abs hx.2) (by omega)))) (a_one (z_mul (z_den (zx s)) (z_den (zy s)) (mulok (nat_abs hx.2) (nat_abs hy.2) (by omega))))) ⟨_, _, rfl, den_ne0, den_lt hx hy hab, ?_⟩) fun v H' s3 d => q v H' (s.trans s3) (Dn.anti s d)
    rw [q_sub]
abbrev s_times : Stmt := topS 23
abbrev N_times : List Str := ["one", "other"]
theorem sc_times : FnScope N_times ["one", "other"] (defScope s_times) := ⟨rfl, rfl, rfl, by decide +kernel, rfl, by decide +kernel, by decide +kernel⟩
theorem b_times (T : Txt K mg) : Binds K (T.fd 10) ["one", "other"] [] := (T.F 10 _ rfl).binds (ps := ["one", "other"]) fun _ _ _ _ _ _ us hl => match us, hl with | [_, _], _ => rfl

theorem ok_times (T : Txt K mg) : FnOk P w K mg base CX0 4 (T.fa 10) (T.fd 10) ["one", "other"] (spD K (P2 fun p q => p * q)) := by
  refine okD (T.F 10 _ rfl) sc_times (fun ds r h => ?_) (fun cdv A outer s H vs Q E ds r hr hv hp q => ?_)
  · obtain ⟨a, b, _, _, rfl, _⟩ := h; rfl
  · obtain ⟨x, y, a, b, rfl, hx, hy, hab, rfl⟩ := hp
    obtain ⟨u, v, rfl, du, dv⟩ := two_of hv
    refine ⟨_, (pss_cons (ps_expr (pe_call (ok_need_fraction T) (hr.mono (by decide)) (by rfl) (T.g 5 _ rfl) (T.F 5 _ rfl).kp (b_need_fraction T) .nil pass0 (pa_cons (pv 0) pa_nil)))
      (pss_cons (ps_expr (pe_call (ok_need_fraction T) (hr.mono (by decide)) (by rfl) (T.g 5 _ rfl) (T.F 5 _ rfl).kp (b_need_fraction T) .nil pass0 (pa_cons (pv 1) pa_nil)))
      (pss_one (ps_ret (pe_call (ok_fraction T) (hr.mono (by decide)) (by rfl) (T.g 7 _ rfl) (T.F 7 _ rfl).kp (b_fraction T) .nil pass0 (pa_cons (pe_op op_mulX (pe_ix (ix_seqK K) (pv 0) pe_int (fun _ _ => rfl)) (pe_ix (ix_seqK K) (pv 1) pe_int (fun _ _ => rfl))) (pa_cons (pe_op op_mulX (pe_ix (ix_seqK K) (pv 0) pe_int (fun _ _ => rfl)) (pe_ix (ix_seqK K) (pv 1) pe_int (fun _ _ => rfl))) pa_nil))))))), ?_⟩
    have zx : ∀ {H'}, Same H H' → Ez K (tVar 0) (start N_times [u, v]) H' (frD x) := fun s => z_var (i := 0) rfl (L2.Dp.mono s du)
    have zy : ∀ {H'}, Same H H' → Ez K (tVar 1) (start N_times [u, v]) H' (frD y) := fun s => z_var (i := 1) rfl (L2.Dp.mono s dv)
    refine s_expr (z_call (a_one (zx (Same.refl _))) ⟨_, rfl, rfl⟩) fun H1 s1 => ?_
    refine s_expr (z_call (a_one (zy s1)) ⟨_, rfl, rfl⟩) fun H2 s2 => ?_
    have s := s1.trans s2
    refine s_ret (d := frD (x * y)) (n_call (a_cons (z_mul (z_num (zx s)) (z_num (zy s)) (mulok hx.1 hy.1 (by omega))) (a_one (z_mul (z_den (zx s)) (z_den (zy s)) (mulok (nat_abs hx.2) (nat_abs hy.2) (by omega))))) ⟨_, _, rfl, den_ne0, den_lt hx hy hab, ?_⟩) fun v H' s3 d => q v H' (s.trans s3) (Dn.anti s d)
    rw [q_mul]
/-! ### sum_of -/
abbrev s_sum_of : Stmt := topS 24
abbrev N_sum_of : List Str := ["fractions", "part", "total"]
theorem sc_sum_of : FnScope N_sum_of ["fractions"] (defScope s_sum_of) := ⟨rfl, rfl, rfl, by decide +kernel, rfl, by decide +kernel, by decide +kernel⟩
theorem b_sum_of (T : Txt K mg) : Binds K (T.fd 11) ["fractions"] [] := (T.F 11 _ rfl).binds (ps := ["fractions"]) fun _ _ _ _ _ _ us hl => match us, hl with | [_], _ => rfl

def PSum : List PyData → PyData → Prop := fun ds r => ∃ (n : Nat) (f : Nat → Rat) (D m : Nat), ds = [.list (tab n fun i => frD (f i))] ∧ n ≤ 8 ∧ 0 < D ∧ D < 2 ^ 3900 ∧ (∀ i, i < n → Fb D m (f i)) ∧ n * m ≤ 128 ∧ r = frD (sm (rg n) f)
theorem ok_sum_of (T : Txt K mg) : FnOk P w K mg base CX0 4 (T.fa 11) (T.fd 11) ["fractions"] (spD K PSum) := by
  refine okD (T.F 11 _ rfl) sc_sum_of (fun ds r h => ?_) (fun cdv A outer s H vs Q E ds r hr hv hp q => ?_)
  · obtain ⟨_, _, _, _, rfl, _⟩ := h; rfl
  · obtain ⟨n, f, D, m0, rfl, hn, hD, hDs, hf, hm0, rfl⟩ := hp
    obtain ⟨u, rfl, du⟩ := one_of hv
    refine ⟨_, (pss_cons (ps_for PassesOwn.never rfl (pi_listK K (pv 0)) (pg_name (i := 1) sc_sum_of.nd rfl (Or.inl rfl))
       (pss_one (ps_expr (pe_call (ok_need_fraction T) (hr.mono (by decide)) (by rfl) (T.g 5 _ rfl) (T.F 5 _ rfl).kp (b_need_fraction T) .nil pass0 (pa_cons (pv 1) pa_nil)))))
      (pss_cons (ps_set (i := 2) sc_sum_of.nd rfl (Or.inl rfl) (pe_tup (pa_cons pe_int (pa_cons pe_int pa_nil))))
      (pss_cons (ps_for PassesOwn.never rfl (pi_listK K (pv 0)) (pg_name (i := 1) sc_sum_of.nd rfl (Or.inl rfl))
       (pss_one (ps_set (i := 2) sc_sum_of.nd rfl (Or.inl rfl) (pe_call (ok_fraction T) (hr.mono (by decide)) (by rfl) (T.g 7 _ rfl) (T.F 7 _ rfl).kp (b_fraction T) .nil pass0 (pa_cons (pe_op op_add (pe_op op_mulX (pe_ix (ix_seqK K) (pv 2) pe_int (fun _ _ => rfl)) (pe_ix (ix_seqK K) (pv 1) pe_int (fun _ _ => rfl))) (pe_op op_mulX (pe_ix (ix_seqK K) (pv 1) pe_int (fun _ _ => rfl)) (pe_ix (ix_seqK K) (pv 2) pe_int (fun _ _ => rfl)))) (pa_cons (pe_op op_mulX (pe_ix (ix_seqK K) (pv 2) pe_int (fun _ _ => rfl)) (pe_ix (ix_seqK K) (pv 1) pe_int (fun _ _ => rfl))) pa_nil))))))
      (pss_one (ps_ret (pv 2)))))), ?_⟩
    have pb : ∀ {m : Nat} {x : Rat}, Fb D m x → m ≤ 128 → Bd 3910 x := fun {m x} h hm => by
      have h2 : Fb D 128 x := h.mono (Nat.dvd_refl _) hm
      refine h2.bd hD (by decide) ?_
      have : 128 * D < 2 ^ 7 * 2 ^ 3900 := by omega
      rw [← Nat.pow_add] at this
      exact lt_pw this (by omega)
    -- for part in fractions: need_fraction(part)
    refine s_forS (Hb := H) (Pv := fun i σ H' => ∃ y z, σ = [some u, y, z] ∧ Same H H') (src_list (z_varP rfl du)) (Same.refl _) ⟨_, _, rfl, Same.refl _⟩ (fun i σ' H' p => p.choose_spec.choose_spec.2) (fun i σ' H' hi p x dx => ?_) (fun σ' H' p => ?_)
    · obtain ⟨y, z, rfl, s1⟩ := p
      rw [tab_len] at hi
      rw [tab_getD hi] at dx
      refine s_expr1 (z_call (a_one (z_var (i := 1) rfl (L2.Dp.mono s1 dx))) ⟨_, rfl, rfl⟩) fun H2 s2 => ⟨_, _, rfl, s1.trans s2⟩
    · obtain ⟨y, z, rfl, s1⟩ := p
      refine s_set (K := K) (d := frD 0) (z_tup (a_cons z_int (a_one z_int))) fun v H2 s2 dv => ?_
      refine s_forS (Hb := H) (Pv := fun i σ H' => ∃ y t, σ = [some u, y, some t] ∧ Same H H' ∧ Dp K H' t (frD (sm (rg i) f))) (src_list (z_varP rfl du)) (s1.trans s2) ⟨_, _, rfl, s1.trans s2, dv⟩ (fun i σ' H' p => p.choose_spec.choose_spec.2.1) (fun i σ' H' hi p x dx => ?_) (fun σ' H' p => ?_)
      · obtain ⟨y, t, rfl, s3, dt⟩ := p
        rw [tab_len] at hi
        rw [tab_getD hi] at dx
        have zt : Ez K (tVar 2) [some u, some x, some t] H' (frD (sm (rg i) f)) := z_var (i := 2) rfl dt
        have zx : Ez K (tVar 1) [some u, some x, some t] H' (frD (f i)) := z_var (i := 1) rfl (L2.Dp.mono s3 dx)
        have hmul : i * m0 + m0 ≤ n * m0 := by
          have := Nat.mul_le_mul_right m0 (show i + 1 ≤ n by omega)
          rw [Nat.succ_mul] at this; exact this
        have ht := pb (Fb.sum hD i fun j hj => hf j (by omega)) (by omega)
        have hx := pb (hf i hi) (by omega)
        refine s_set1 (d := frD (sm (rg (i + 1)) f)) (z_call (a_cons (z_add (z_mul (z_num zt) (z_den zx) (mulok ht.1 (nat_abs hx.2) (by omega))) (z_mul (z_num zx) (z_den zt) (mulok hx.1 (nat_abs ht.2) (by omega)))) (a_one (z_mul (z_den zt) (z_den zx) (mulok (nat_abs ht.2) (nat_abs hx.2) (by omega))))) ⟨_, _, rfl, den_ne0, den_lt ht hx (by omega), ?_⟩) fun v H4 s4 d4 => ⟨_, _, rfl, s3.trans s4, d4⟩
        rw [q_add, sm_range_succ]
      · obtain ⟨y, t, rfl, s3, dt⟩ := p
        rw [tab_len] at dt
        exact s_ret (Ez.en (z_var (i := 2) rfl dt)) fun v H4 s4 d4 => q v H4 (s3.trans s4) (Dn.anti s3 d4)
end
end Ck
end

section
set_option Elab.async false
set_option linter.all false
set_option maxRecDepth 100000
set_option maxHeartbeats 4000000
/-! dot, cleared. -/
namespace Ck
open PySem PySem.Spec PyProof.Rows L2
def rowL (n : Nat) (f : Nat → Rat) : PyData := .list (tab n fun j => frD (f j))
def rowT (n : Nat) (f : Nat → Rat) : PyData := .tuple (tab n fun j => frD (f j))
def matL (m n : Nat) (F : Mx) : PyData := .list (tab m fun i => rowL n (F i))
def matT (m n : Nat) (F : Mx) : PyData := .tuple (tab m fun i => rowT n (F i))
theorem rowL_congr {n : Nat} {f g : Nat → Rat} (h : ∀ j, j < n → f j = g j) : rowL n f = rowL n g := by
  unfold rowL; rw [tab_congr fun i hi => by rw [h i hi]]
theorem rowT_congr {n : Nat} {f g : Nat → Rat} (h : ∀ j, j < n → f j = g j) : rowT n f = rowT n g := by
  unfold rowT; rw [tab_congr fun i hi => by rw [h i hi]]
theorem matL_congr {m n : Nat} {F G : Mx} (h : ∀ i j, i < m → j < n → F i j = G i j) : matL m n F = matL m n G := by
  unfold matL; rw [tab_congr fun i hi => rowL_congr fun j hj => h i j hi hj]
theorem matT_congr {m n : Nat} {F G : Mx} (h : ∀ i j, i < m → j < n → F i j = G i j) : matT m n F = matT m n G := by
  unfold matT; rw [tab_congr fun i hi => rowT_congr fun j hj => h i j hi hj]
section
variable {P : Program} {w : World} {K : Fg} {mg : Str → Option Value} {base : Heap}
theorem flats_tab {n : Nat} {f : Nat → PyData} (h : ∀ i, flatD (f i) = true) : flatDs (tab n f) = true := by
  induction n with
  | zero => rfl
  | succ n ih =>
    have app : ∀ l : List PyData, flatDs l = true → flatDs (l ++ [f n]) = true := by
      intro l
      induction l with
      | nil => intro _; show (flatD (f n) && true) = true; rw [h n]; rfl
      | cons a l ih => intro q; have q' := Bool.and_eq_true_iff.mp (show (flatD a && flatDs l) = true from q); show (flatD a && flatDs (l ++ [f n])) = true; rw [q'.1, ih q'.2]; rfl
    rw [tab_succ]; exact app _ ih
theorem flat_rowT {n : Nat} {f : Nat → Rat} : flatD (rowT n f) = true := flats_tab fun _ => rfl
theorem flat_matT {m n : Nat} {F : Mx} : flatD (matT m n F) = true := flats_tab fun _ => flat_rowT
section
variable {σ : L2.St} {H : Hp} {ta tb : TE} {n m i j : Nat} {f : Nat → Rat} {F : Mx}
theorem z_rowL (ha : Ez K ta σ H (rowL n f)) (hb : Ez K tb σ H (.int i)) (hi : i < n) : Ez K (tOp (rIx K) ta tb) σ H (frD (f i)) := z_ixL ha hb (tab_at hi)
theorem z_rowT (ha : Ez K ta σ H (rowT n f)) (hb : Ez K tb σ H (.int i)) (hi : i < n) : Ez K (tOp (rIx K) ta tb) σ H (frD (f i)) := z_ixT ha hb (tab_at hi)
theorem z_matL (ha : Ez K ta σ H (matL m n F)) (hb : Ez K tb σ H (.int i)) (hi : i < m) : Ez K (tOp (rIx K) ta tb) σ H (rowL n (F i)) := z_ixL ha hb (tab_at hi)
theorem z_matT (ha : Ez K ta σ H (matT m n F)) (hb : Ez K tb σ H (.int i)) (hi : i < m) : Ez K (tOp (rIx K) ta tb) σ H (rowT n (F i)) := z_ixT ha hb (tab_at hi)
end
theorem frD_zero (q : Rat) : (!decide (q.num = 0)) = (!decide (q = 0)) := by
  by_cases h : q = 0
  · rw [decide_eq_true h, decide_eq_true (Rat.num_eq_zero.mpr h)]
  · rw [decide_eq_false h, decide_eq_false (fun e => h (Rat.num_eq_zero.mp e))]
/-- a fraction's head is not 0 -/
theorem z_nz {σ : L2.St} {H : Hp} {ta : TE} {q : Rat} (ha : Ez K ta σ H (frD q)) : Ez K (tOp (rNeD K) (tOp (rIx K) ta (tC (.int 0))) (tC (.int 0))) σ H (.bool (!decide (q = 0))) := by
  rw [← frD_zero]; exact z_neI (z_num ha) z_int
abbrev s_dot : Stmt := topS 26
abbrev N_dot : List Str := ["ones", "others", "above", "below", "one", "other", "step"]
theorem sc_dot : FnScope N_dot ["ones", "others"] (defScope s_dot) := ⟨rfl, rfl, rfl, by decide +kernel, rfl, by decide +kernel, by decide +kernel⟩
theorem b_dot (T : Txt K mg) : Binds K (T.fd 12) ["ones", "others"] [] := (T.F 12 _ rfl).binds (ps := ["ones", "others"]) fun _ _ _ _ _ _ us hl => match us, hl with | [_, _], _ => rfl

def PDot : List PyData → PyData → Prop := fun ds r => ∃ (n : Nat) (f g : Nat → Rat) (a b : Nat), ds = [rowT n f, rowL n g] ∧ n ≤ 8 ∧ (∀ i, i < n → Bd a (f i)) ∧ (∀ i, i < n → Bd b (g i)) ∧ n * (a + b + 1) + 1 ≤ 8990 ∧ r = frD (sm (rg n) fun i => f i * g i)
theorem ok_dot (T : Txt K mg) : FnOk P w K mg base CX0 2 (T.fa 12) (T.fd 12) ["ones", "others"] (spD K PDot) := by
  refine okD (T.F 12 _ rfl) sc_dot (fun ds r h => ?_) (fun cdv A outer s H vs Q E ds r hr hv hp q => ?_)
  · obtain ⟨_, _, _, _, _, rfl, _⟩ := h; rfl
  · obtain ⟨n, f, g, a, b, rfl, hn, hf, hg, hs, rfl⟩ := hp
    obtain ⟨u, v, rfl, du, dv⟩ := two_of hv
    refine ⟨_, (pss_cons (ps_set (i := 2) sc_dot.nd rfl (Or.inl rfl) pe_int)
      (pss_cons (ps_set (i := 3) sc_dot.nd rfl (Or.inl rfl) pe_int)
      (pss_cons (ps_for PassesOwn.never rfl (pi_zipK K (by rfl) (T.n "zip") (pa_cons (pv 0) (pa_cons (pv 1) pa_nil))) (pg_tupK K (n := 2) rfl (pgs_cons (pg_name (i := 4) sc_dot.nd rfl (Or.inl rfl)) (pgs_cons (pg_name (i := 5) sc_dot.nd rfl (Or.inl rfl)) pgs_nil)))
       (pss_one (ps_if (PW.pt (pw_and (pt_cmpR (op_neK K hr.units) (pe_ix (ix_seqK K) (pv 4) pe_int (fun _ _ => rfl)) pe_int (nomark _)) (pw_and1 (pt_cmpR (op_neK K hr.units) (pe_ix (ix_seqK K) (pv 5) pe_int (fun _ _ => rfl)) pe_int (nomark _)))))
        (pss_cons (ps_set (i := 6) sc_dot.nd rfl (Or.inl rfl) (pe_op op_mulX (pe_ix (ix_seqK K) (pv 4) pe_int (fun _ _ => rfl)) (pe_ix (ix_seqK K) (pv 5) pe_int (fun _ _ => rfl))))
        (pss_cons (ps_set (i := 2) sc_dot.nd rfl (Or.inl rfl) (pe_op op_add (pe_op op_mulX (pv 2) (pv 6)) (pe_op op_mulX (pe_op op_mulX (pe_ix (ix_seqK K) (pv 4) pe_int (fun _ _ => rfl)) (pe_ix (ix_seqK K) (pv 5) pe_int (fun _ _ => rfl))) (pv 3))))
        (pss_one (ps_set (i := 3) sc_dot.nd rfl (Or.inl rfl) (pe_op op_mulX (pv 3) (pv 6))))))
        pss_nil)))
      (pss_one (ps_ret (pe_call (ok_fraction T) (hr.mono (by decide)) (by rfl) (T.g 7 _ rfl) (T.F 7 _ rfl).kp (b_fraction T) .nil pass0 (pa_cons (pv 2) (pa_cons (pv 3) pa_nil)))))))), ?_⟩
    refine s_set (K := K) z_int fun x1 H1 s1 d1 => ?_
    cases d1
    refine s_set (K := K) z_int fun x2 H2 s2 d2 => ?_
    cases d2
    have s12 := s1.trans s2
    have hmon : ∀ i, i ≤ n → i * (a + b + 1) + 1 ≤ n * (a + b + 1) + 1 := fun i hi => by
      have := Nat.mul_le_mul_right (a + b + 1) hi; omega
    refine s_for2S (Hb := H) (fun i σ' H' => ∃ (ab be : Int) (y1 y2 y3 : Option V), σ' = [some u, some v, some (.int ab), some (.int be), y1, y2, y3] ∧ Same H H' ∧ 0 < be ∧ ((ab : Rat) / be = sm (rg i) fun i => f i * g i) ∧ ab.natAbs < 2 ^ (i * (a + b + 1) + 1) ∧ be.natAbs < 2 ^ (i * (a + b + 1) + 1))
      (src_zip (ap_cons (p_var (i := 0) rfl du) (ap_one (p_var (i := 1) rfl dv))) (.inr (.inr ⟨rfl, rfl⟩)) (by rw [tab_len, tab_len])) s12 ⟨0, 1, none, none, none, rfl, s12, by decide, ?_, ?_, ?_⟩ (fun i σ' H' p => ?_) (fun i σ' H' hi p x y H3 s3 dx dy => ?_) (fun σ' H' p => ?_)
    · show ((0 : Int) : Rat) / ((1 : Int) : Rat) = 0
      rw [Rat.intCast_zero, Rat.intCast_one]; grind
    · rw [Nat.zero_mul]; decide
    · rw [Nat.zero_mul]; decide
    · obtain ⟨_, _, _, _, _, _, s', _⟩ := p; exact s'
    · obtain ⟨ab, be, y1, y2, y3, rfl, s', hbe, hsum, hab, hbb⟩ := p
      rw [tab_len] at hi
      rw [tab_getD hi] at dx dy
      have s4 := s'.trans s3
      have hm := hmon (i + 1) hi
      have hm0 : (i + 1) * (a + b + 1) = i * (a + b + 1) + (a + b + 1) := Nat.succ_mul _ _
      have zx : ∀ {σ : L2.St} {H'}, σ[4]? = some (some x) → Same H H' → Ez K (tVar 4) σ H' (frD (f i)) := fun e s => z_var e (L2.Dp.mono s dx)
      have zy : ∀ {σ : L2.St} {H'}, σ[5]? = some (some y) → Same H H' → Ez K (tVar 5) σ H' (frD (g i)) := fun e s => z_var e (L2.Dp.mono s dy)
      have hfi := hf i hi
      have hgi := hg i hi
      refine s_if1 (b := (!decide (f i = 0)) && (!decide (g i = 0))) (t_and (t_val (z_nz (zx rfl s4))) fun _ => t_val (z_nz (zy rfl s4))) (fun hb H5 s5 => ?_) (fun hb H5 s5 => ?_)
      · have s6 := s4.trans s5
        refine s_set (z_mul (z_den (zx rfl s6)) (z_den (zy rfl s6)) (mulok (nat_abs hfi.2) (nat_abs hgi.2) (by omega))) fun x6 H6 s7 d6 => ?_
        cases d6
        have s8 := s6.trans s7
        have hst : (((f i).den : Int) * ((g i).den : Int)).natAbs < 2 ^ (a + b) := natAbs_mul_lt (nat_abs hfi.2) (nat_abs hgi.2)
        have hnn : ((f i).num * (g i).num).natAbs < 2 ^ (a + b) := natAbs_mul_lt hfi.1 hgi.1
        refine s_set (z_add (z_mul (z_var (i := 2) rfl (.int _)) (z_var (i := 6) rfl (.int _)) (mulok hab hst (by omega))) (z_mul (z_mul (z_num (zx rfl s8)) (z_num (zy rfl s8)) (mulok hfi.1 hgi.1 (by omega))) (z_var (i := 3) rfl (.int _)) (mulok hnn hbb (by omega)))) fun x7 H7 s9 d7 => ?_
        cases d7
        refine s_set1 (K := K) (z_mul (z_var (i := 3) rfl (.int _)) (z_var (i := 6) rfl (.int _)) (mulok hbb hst (by omega))) fun x8 H8 s10 d8 => ?_
        cases d8
        have hden : (0 : Int) < ((f i).den : Int) * ((g i).den : Int) := Int.mul_pos (by have := (f i).den_pos; omega) (by have := (g i).den_pos; omega)
        refine ⟨_, _, _, _, _, rfl, (s8.trans s9).trans s10, Int.mul_pos hbe hden, ?_, ?_, ?_⟩
        · rw [sm_range_succ, ← hsum, ← q_mul (f i) (g i)]
          have n1 : (be : Rat) ≠ 0 := by have : (0 : Rat) < (be : Rat) := Rat.intCast_pos.mpr hbe; grind
          have n2 : ((((f i).den : Int) * ((g i).den : Int) : Int) : Rat) ≠ 0 := by have : (0 : Rat) < ((((f i).den : Int) * ((g i).den : Int) : Int) : Rat) := Rat.intCast_pos.mpr hden; grind
          generalize ((f i).den : Int) * ((g i).den : Int) = z at *
          generalize (f i).num * (g i).num = t at *
          rw [Rat.intCast_add, Rat.intCast_mul, Rat.intCast_mul, Rat.intCast_mul]
          grind
        · rw [hm0]
          have a1 := natAbs_mul_lt hab hst
          have a2 := natAbs_mul_lt hnn hbb
          exact lt_pw (natAbs_add_lt (lt_pw a1 (show _ ≤ i * (a + b + 1) + 1 + (a + b) by omega)) (lt_pw a2 (by omega))) (by omega)
        · rw [hm0]
          exact lt_pw (natAbs_mul_lt hbb hst) (by omega)
      · refine ⟨ab, be, _, _, _, rfl, s4.trans s5, hbe, ?_, lt_pw hab (by omega), lt_pw hbb (by omega)⟩
        rw [sm_range_succ, hsum]
        have hz : f i * g i = 0 := by
          by_cases h1 : f i = 0
          · rw [h1]; grind
          · by_cases h2 : g i = 0
            · rw [h2]; grind
            · rw [decide_eq_false h1, decide_eq_false h2] at hb; cases hb
        rw [hz]; grind
    · obtain ⟨ab, be, y1, y2, y3, rfl, s', hbe, hsum, hab, hbb⟩ := p
      rw [tab_len] at hsum hab hbb
      refine s_ret (d := frD (sm (rg n) fun i => f i * g i)) (n_call (a_cons (z_var (i := 2) rfl (.int ab)) (a_one (z_var (i := 3) rfl (.int be)))) ⟨ab, be, rfl, by omega, lt_pw hbb (by omega), by rw [hsum]⟩) fun v H5 s5 d5 => q v H5 (s'.trans s5) (Dn.anti s' d5)
abbrev s_cleared : Stmt := topS 27
abbrev N_cleared : List Str := ["row", "factor", "head", "made", "one", "other", "step"]
theorem sc_cleared : FnScope N_cleared ["row", "factor", "head"] (defScope s_cleared) := ⟨rfl, rfl, rfl, by decide +kernel, rfl, by decide +kernel, by decide +kernel⟩
theorem b_cleared (T : Txt K mg) : Binds K (T.fd 13) ["row", "factor", "head"] [] := (T.F 13 _ rfl).binds (ps := ["row", "factor", "head"]) fun _ _ _ _ _ _ us hl => match us, hl with | [_, _, _], _ => rfl

def PClr : List PyData → PyData → Prop := fun ds r => ∃ (n : Nat) (f h : Nat → Rat) (x : Rat) (a b c : Nat), ds = [rowL n f, frD x, rowL n h] ∧ n ≤ 900 ∧ (∀ i, i < n → Bd a (f i)) ∧ Bd b x ∧ (∀ i, i < n → Bd c (h i)) ∧ a + b + c + 1 ≤ 8990 ∧ r = rowL n fun i => f i - x * h i
theorem ok_cleared (T : Txt K mg) : FnOk P w K mg base CX0 2 (T.fa 13) (T.fd 13) ["row", "factor", "head"] (spD K PClr) := by
  refine okD (T.F 13 _ rfl) sc_cleared (fun ds r h => ?_) (fun cdv A outer s H vs Q E ds r hr hv hp q => ?_)
  · obtain ⟨_, _, _, _, _, _, _, rfl, _⟩ := h; rfl
  · obtain ⟨n, f, h, x, a, b, c, rfl, hn, hf, hx, hh, hs, rfl⟩ := hp
    obtain ⟨u, v, t, rfl, du, dv, dt⟩ := three_of hv
    refine ⟨_, (pss_cons (ps_set (i := 3) sc_cleared.nd rfl (Or.inl rfl) (pe_lst pa_nil))
      (pss_cons (ps_for PassesOwn.never rfl (pi_zipK K (by rfl) (T.n "zip") (pa_cons (pv 0) (pa_cons (pv 2) pa_nil))) (pg_tupK K (n := 2) rfl (pgs_cons (pg_name (i := 4) sc_cleared.nd rfl (Or.inl rfl)) (pgs_cons (pg_name (i := 5) sc_cleared.nd rfl (Or.inl rfl)) pgs_nil)))
       (pss_cons (ps_set (i := 6) sc_cleared.nd rfl (Or.inl rfl) (pe_op op_mulX (pe_ix (ix_seqK K) (pv 1) pe_int (fun _ _ => rfl)) (pe_ix (ix_seqK K) (pv 5) pe_int (fun _ _ => rfl))))
       (pss_one (ps_expr (pe_appK K (pv 3) (pa_cons (pe_call (ok_fraction T) (hr.mono (by decide)) (by rfl) (T.g 7 _ rfl) (T.F 7 _ rfl).kp (b_fraction T) .nil pass0 (pa_cons (pe_op op_sub (pe_op op_mulX (pe_ix (ix_seqK K) (pv 4) pe_int (fun _ _ => rfl)) (pv 6)) (pe_op op_mulX (pe_op op_mulX (pe_ix (ix_seqK K) (pv 1) pe_int (fun _ _ => rfl)) (pe_ix (ix_seqK K) (pv 5) pe_int (fun _ _ => rfl))) (pe_ix (ix_seqK K) (pv 4) pe_int (fun _ _ => rfl)))) (pa_cons (pe_op op_mulX (pe_ix (ix_seqK K) (pv 4) pe_int (fun _ _ => rfl)) (pv 6)) pa_nil))) pa_nil))))))
      (pss_one (ps_ret (pv 3))))), ?_⟩
    refine s_setnil fun m nm => ?_
    refine s_for2S (Hb := H) (fun i σ' H' => ∃ (y1 y2 y3 : Option V), σ' = [some u, some v, some t, some (.ref m), y1, y2, y3] ∧ LcInv K H m (tab i fun i => frD (f i - x * h i)) H')
      (src_zip (ap_cons (p_var (i := 0) rfl du) (ap_one (p_var (i := 2) rfl dt))) (.inl ⟨rfl, rfl⟩) (by rw [tab_len, tab_len])) (same_new nm) ⟨none, none, none, rfl, LcF.start nm⟩ (fun i σ' H' p => ?_) (fun i σ' H' hi p y z H3 s3 dy dz => ?_) (fun σ' H' p => ?_)
    · obtain ⟨_, _, _, _, I⟩ := p; exact I.same
    · obtain ⟨y1, y2, y3, rfl, I⟩ := p
      rw [tab_len] at hi
      rw [tab_getD hi] at dy dz
      have I3 := LcF.same' I s3
      have zy : ∀ {σ : L2.St} {H'}, σ[4]? = some (some y) → Same H H' → Ez K (tVar 4) σ H' (frD (f i)) := fun e s => z_var e (L2.Dp.mono s dy)
      have zz : ∀ {σ : L2.St} {H'}, σ[5]? = some (some z) → Same H H' → Ez K (tVar 5) σ H' (frD (h i)) := fun e s => z_var e (L2.Dp.mono s dz)
      have zv : ∀ {σ : L2.St} {H'}, σ[1]? = some (some v) → Same H H' → Ez K (tVar 1) σ H' (frD x) := fun e s => z_var e (L2.Dp.mono s dv)
      have hfi := hf i hi
      have hhi := hh i hi
      refine s_set (z_mul (z_den (zv rfl I3.same)) (z_den (zz rfl I3.same)) (mulok (nat_abs hx.2) (nat_abs hhi.2) (by omega))) fun x4 H4 s4 d4 => ?_
      cases d4
      have I4 := LcF.same' I3 s4
      have hst : ((x.den : Int) * ((h i).den : Int)).natAbs < 2 ^ (b + c) := natAbs_mul_lt (nat_abs hx.2) (nat_abs hhi.2)
      have hnn : (x.num * (h i).num).natAbs < 2 ^ (b + c) := natAbs_mul_lt hx.1 hhi.1
      refine s_app (Hb := H) rfl nm I4 (by rw [tab_len]; omega) (d := frD (f i - x * h i)) ?_ fun H5 I5 _ => ⟨_, _, _, rfl, by rw [tab_succ]; exact I5⟩
      refine n_call (a_cons (z_sub (z_mul (z_num (zy rfl I4.same)) (z_var (i := 6) rfl (.int _)) (mulok hfi.1 hst (by omega))) (z_mul (z_mul (z_num (zv rfl I4.same)) (z_num (zz rfl I4.same)) (mulok hx.1 hhi.1 (by omega))) (z_den (zy rfl I4.same)) (mulok hnn (nat_abs hfi.2) (by omega)))) (a_one (z_mul (z_den (zy rfl I4.same)) (z_var (i := 6) rfl (.int _)) (mulok (nat_abs hfi.2) hst (by omega))))) ⟨_, _, rfl, ?_, lt_pw (natAbs_mul_lt (nat_abs hfi.2) hst) (by omega), ?_⟩
      · have h1 := (f i).den_pos; have h2 := x.den_pos; have h3 := (h i).den_pos
        exact Int.mul_ne_zero (by omega) (Int.mul_ne_zero (by omega) (by omega))
      · rw [q_clr]
    · obtain ⟨y1, y2, y3, rfl, I⟩ := p
      rw [tab_len] at I
      refine (?_ : tRet _ _ _ _)
      refine ⟨.ref m, rfl, ?_⟩
      exact q _ _ I.same (LcF.dn nm I)
end
end Ck
end

section
set_option Elab.async false
set_option linter.all false
set_option maxRecDepth 100000
set_option maxHeartbeats 4000000
/-! equality of data; lists changed by place; reduced. -/
namespace Ck
open PySem PySem.Spec PyProof.Rows L2
/-! ### shapes -/
def Shp (k : Nat) (d : PyData) : Prop := d.canLay0 = true ∧ d.depth ≤ k
theorem Shp.ok {k : Nat} {d : PyData} (h : Shp k d) (hk : k ≤ 64 := by decide) : SeqAt.shaped d = true := by
  unfold SeqAt.shaped
  rw [h.1, decide_eq_true (Nat.le_trans h.2 hk)]; rfl
theorem Shp.mono {k m : Nat} {d : PyData} (h : Shp k d) (hk : k ≤ m) : Shp m d := ⟨h.1, Nat.le_trans h.2 hk⟩
theorem shp_int {i : Int} : Shp 0 (.int i) := ⟨rfl, Nat.le_refl _⟩
theorem shpAll {k : Nat} : ∀ {l : List PyData}, (∀ d ∈ l, Shp k d) → PyData.canLayAll0 l = true ∧ PyData.depthAll l ≤ k
  | [], _ => ⟨rfl, Nat.zero_le _⟩
  | a :: l, h => by
    obtain ⟨h1, h2⟩ := shpAll fun d hd => h d (List.mem_cons_of_mem _ hd)
    have ha := h a List.mem_cons_self
    refine ⟨?_, ?_⟩
    · show (PyData.canLay0 a && PyData.canLayAll0 l) = true
      rw [ha.1, h1]; rfl
    · show max (PyData.depth a) (PyData.depthAll l) ≤ k
      exact Nat.max_le.mpr ⟨ha.2, h2⟩
theorem shp_list {k : Nat} {l : List PyData} (h : ∀ d ∈ l, Shp k d) : Shp (k + 1) (.list l) := by
  obtain ⟨h1, h2⟩ := shpAll h
  refine ⟨by unfold PyData.canLay0; exact h1, ?_⟩
  unfold PyData.depth
  omega
theorem shp_tuple {k : Nat} {l : List PyData} (h : ∀ d ∈ l, Shp k d) : Shp (k + 1) (.tuple l) := by
  obtain ⟨h1, h2⟩ := shpAll h
  refine ⟨by unfold PyData.canLay0; exact h1, ?_⟩
  unfold PyData.depth
  omega
theorem shp_tab {k n : Nat} {f : Nat → PyData} (h : ∀ i, i < n → Shp k (f i)) : ∀ d ∈ tab n f, Shp k d := fun d hd => by
  unfold tab at hd
  obtain ⟨i, hi, rfl⟩ := List.mem_map.mp hd
  exact h i (List.mem_range.mp hi)
theorem shp_ints {l : List Int} : Shp 1 (.list (l.map PyData.int)) := shp_list (k := 0) fun d hd => by
  obtain ⟨i, _, rfl⟩ := List.mem_map.mp hd; exact shp_int
theorem shp_intsT {l : List Int} : Shp 1 (.tuple (l.map PyData.int)) := shp_tuple (k := 0) fun d hd => by
  obtain ⟨i, _, rfl⟩ := List.mem_map.mp hd; exact shp_int
theorem shp_fr {q : Rat} : Shp 1 (frD q) := shp_tuple (k := 0) fun d hd => by
  simp at hd; rcases hd with rfl | rfl <;> exact shp_int
theorem shp_rowT {n : Nat} {f : Nat → Rat} : Shp 2 (rowT n f) := shp_tuple (shp_tab fun _ _ => shp_fr)
theorem shp_matT {m n : Nat} {F : Mx} : Shp 3 (matT m n F) := shp_tuple (shp_tab fun _ _ => shp_rowT)
theorem eqv_self {k : Nat} {d : PyData} (h : Shp k d) : PyData.eqv d d = true := SeqAt.eqv_refl d h.1
theorem eqv_nil {l : List PyData} : PyData.eqv (.list l) (.list []) = l.isEmpty := by
  cases l with
  | nil => unfold PyData.eqv PyData.eqvAll; rfl
  | cons a l => unfold PyData.eqv PyData.eqvAll; rfl
theorem eqv_ints : ∀ {l m : List Int}, PyData.eqvAll (l.map PyData.int) (m.map PyData.int) = decide (l = m)
  | [], [] => by unfold PyData.eqvAll; rfl
  | [], _ :: _ => by unfold PyData.eqvAll; rfl
  | _ :: _, [] => by unfold PyData.eqvAll; rfl
  | a :: l, b :: m => by
    show (PyData.eqv (.int a) (.int b) && PyData.eqvAll (l.map PyData.int) (m.map PyData.int)) = _
    rw [eqv_int, eqv_ints]
    by_cases h : a = b
    · subst h; simp
    · simp [h]
theorem eqv_fr {p q : Rat} : PyData.eqv (frD p) (frD q) = decide (p = q) := by
  have h : PyData.eqv (frD p) (frD q) = PyData.eqvAll ([p.num, (p.den : Int)].map PyData.int) ([q.num, (q.den : Int)].map PyData.int) := by
    unfold frD; rw [PyData.eqv]; rfl
  rw [h, eqv_ints]
  by_cases e : p = q
  · subst e; simp
  · rw [decide_eq_false e, decide_eq_false]
    intro z
    simp at z
    exact e (Rat.ext z.1 (by omega))
section
variable {P : Program} {w : World} {K : Fg} {mg : Str → Option Value} {base : Heap}
section
variable {σ : L2.St} {H Hb Hf : Hp} {ta tb te tj : TE} {D : Ends} {rest : TS} {d : PyData} {ds : List PyData} {m : Addr} {i j : Nat}
theorem ixN_nat {n j : Nat} (h : j < n) : ixN n (j : Int) = some j := by
  unfold ixN
  rw [if_pos (by omega), if_pos (by omega)]; simp
theorem tab_set {n j : Nat} {f : Nat → PyData} {d : PyData} : (tab n f).set j d = tab n fun i => if i = j then d else f i := by
  refine List.ext_getElem? fun i => ?_
  rw [List.getElem?_set]
  by_cases hi : i < n
  · rw [tab_len]
    by_cases e : j = i
    · subst e
      rw [if_pos rfl, if_pos hi, tab_at hi]
      show some d = some (if j = j then d else f j)
      rw [if_pos rfl]
    · rw [if_neg e, tab_at hi, tab_at hi]
      show some (f i) = some (if i = j then d else f i)
      rw [if_neg (Ne.symm e)]
  · have h1 : (tab n fun i => if i = j then d else f i)[i]? = none := List.getElem?_eq_none (by rw [tab_len]; omega)
    have h2 : (tab n f)[i]? = none := List.getElem?_eq_none (by rw [tab_len]; omega)
    rw [h1, h2, tab_len]
    split
    · rw [if_neg (by omega)]
    · rfl
theorem LcF.setV {v : V} {H' : Hp} {acc : List V} (hD : Hb m = none) (I : LcF K Hb Hf m ds H) (s : Same H H') (e : H m = some (.lst acc)) (dn : Dn K (upd Hf m (.lst [])) H' v d) : LcF K Hb Hf m (ds.set j d) (upd H' m (.lst (acc.set j v))) := by
  obtain ⟨acc', h1, h2⟩ := I.acc
  rw [e] at h1
  cases h1
  have e' := s _ _ e
  refine ⟨fun b o z => ?_, fun a z => I.fr a (s.free (upd_none z).2), I.sub, acc.set j v, upd_same, ?_⟩
  · rw [upd_ne (ne_of_none z hD)]; exact s _ _ (I.same _ _ z)
  · exact DnAll.setAt (DnAll.upd e' upd_same (DnAll.mono s h2)) (Dn.upd e' upd_same dn)
theorem LcF.isnew {v : V} {H' : Hp} {acc : List V} (I : LcF K Hb Hf m ds H) (e : H m = some (.lst acc)) (dn : Dn K H H' v d) : Dn K (upd Hf m (.lst [])) H' v d := Dn.anti' (fun a z => upd_none' (fun q => by rw [q, e] at z; cases z) (I.fr a z)) dn
/-- made[j] = e -/
theorem s_setit1 (hm : σ[i]? = some (some (.ref m))) (hD : Hb m = none) (I : LcF K Hb Hf m ds H) (hj : j < ds.length) (he : En K te σ H d) (hi : ∀ H2, Same H H2 → Ez K tj σ H2 (.int j)) (k : ∀ H', LcF K Hb Hf m (ds.set j d) H' → SameX m H H' → D.nx σ H') : tAsg te (gSub (tVar i) tj rSetL) D σ H := by
  obtain ⟨acc, h1, h2⟩ := I.acc
  refine he H (Same.refl _) _ fun v H2 s2 dv => ⟨.ref m, hm, hi H2 s2 H2 (Same.refl _) _ fun y H3 s3 dy => ?_⟩
  cases dy
  have e3 := s3 _ _ (s2 _ _ h1)
  refine ⟨m, acc, j, j, rfl, rfl, e3, ixN_nat (by rw [h2.len]; exact hj), k _ ?_ ((SameX.of (s2.trans s3)).trans .upd)⟩
  exact LcF.setV hD I (s2.trans s3) h1 (Dn.mono s3 (I.isnew h1 dv))
theorem s_setit (hm : σ[i]? = some (some (.ref m))) (hD : Hb m = none) (I : LcF K Hb Hf m ds H) (hj : j < ds.length) (he : En K te σ H d) (hi : ∀ H2, Same H H2 → Ez K tj σ H2 (.int j)) (k : ∀ H', LcF K Hb Hf m (ds.set j d) H' → SameX m H H' → rest D σ H') : tSeq (tAsg te (gSub (tVar i) tj rSetL)) rest D σ H :=
  s_setit1 (D := { D with nx := rest D }) hm hD I hj he hi k
/-- len(made) -/
theorem z_varlen {n : Nat} (J : LcF K Hb Hf m ds H) (hD : Hb m = none) (e : σ[i]? = some (some (.ref m))) (hn : ds.length = n) : Ez K (tCB (rLenX K) (tCons (tVar i) tNil)) σ H (.int (n : Int)) := by
  rw [← hn]; exact z_lenL (z_var e (LcF.dn hD J).dp)
/-- made[j] at the values -/
theorem v_get {acc : List V} {v : V} {Q : VK} (hm : σ[i]? = some (some (.ref m))) (hl : H m = some (.lst acc)) (hj : Ez K tj σ H (.int j)) (hv : acc[j]? = some v) (k : ∀ H2, Same H H2 → Q v H2) : tOp (rIx K) (tVar i) tj σ H Q :=
  ⟨.ref m, hm, hj H (Same.refl _) _ fun y H2 s2 dy => by cases dy; exact .inl ⟨m, acc, j, v, rfl, rfl, SqL.of (s2 _ _ hl), atI_of hv, k H2 s2⟩⟩
/-- made[c], made[f] = made[f], made[c] -/
theorem s_swap {c f : Nat} {tc tf : TE} {dc df : PyData} (hm : σ[i]? = some (some (.ref m))) (hD : Hb m = none) (I : LcF K Hb Hf m ds H) (hdc : ds[c]? = some dc) (hdf : ds[f]? = some df) (hc : ∀ H2, Same Hb H2 → SameX m H H2 → Ez K tc σ H2 (.int c)) (hf : ∀ H2, Same Hb H2 → SameX m H H2 → Ez K tf σ H2 (.int f))
    (k : ∀ H', LcF K Hb Hf m ((ds.set c df).set f dc) H' → SameX m H H' → rest D σ H') :
    tSeq (tAsg (tTup (tCons (tOp (rIx K) (tVar i) tf) (tCons (tOp (rIx K) (tVar i) tc) tNil))) (gTup K 2 (gCons (gSub (tVar i) tc rSetL) (gCons (gSub (tVar i) tf rSetL) gNil)))) rest D σ H := by
  obtain ⟨acc, h1, h2⟩ := id I.acc
  obtain ⟨vc, hvc, dvc⟩ := h2.at hdc
  obtain ⟨vf, hvf, dvf⟩ := h2.at hdf
  have lc : c < acc.length := (List.getElem?_eq_some_iff.mp hvc).1
  have lf : f < acc.length := (List.getElem?_eq_some_iff.mp hvf).1
  refine v_get hm h1 (hf H I.same (.of (Same.refl _))) hvf fun H2 s2 => ?_
  refine v_get hm (s2 _ _ h1) (hc H2 (I.same.trans s2) (.of s2)) hvc fun H3 s3 => ?_
  refine ⟨by show 2 ≤ sizeLine; decide, fun p np => ?_⟩
  have s4 := same_new (o := .tup [vf, vc]) np
  have s := (s2.trans s3).trans s4
  refine ⟨p, [vf, vc], rfl, SqT.of upd_same, rfl, vf, [vc], rfl, ?_⟩
  refine ⟨.ref m, hm, hc _ (I.same.trans s) (.of s) _ (Same.refl _) _ fun y H5 s5 dy => ?_⟩
  cases dy
  have e5 := s5 _ _ (s _ _ h1)
  refine ⟨m, acc, c, c, rfl, rfl, e5, ixN_nat lc, ?_⟩
  have I5 : LcF K Hb Hf m (ds.set c df) (upd H5 m (.lst (acc.set c vf))) := LcF.setV hD I (s.trans s5) h1 (Dn.mono (s.trans s5) dvf)
  have o5 : SameX m H (upd H5 m (.lst (acc.set c vf))) := (SameX.of (s.trans s5)).trans .upd
  refine ⟨vc, [], rfl, .ref m, hm, hf _ I5.same o5 _ (Same.refl _) _ fun z H6 s6 dz => ?_⟩
  cases dz
  have e6 : H6 m = some (.lst (acc.set c vf)) := s6 _ _ upd_same
  refine ⟨m, acc.set c vf, f, f, rfl, rfl, e6, ixN_nat (by rw [List.length_set]; exact lf), rfl, k _ ?_ ((o5.trans (.of s6)).trans .upd)⟩
  refine LcF.setV hD I5 s6 upd_same (Dn.mono s6 ?_)
  have e5' : H5 m = some (.lst acc) := e5
  exact Dn.upd e5' upd_same (Dn.mono (s.trans s5) dvc)
end
end
end Ck
end

section
set_option Elab.async false
set_option linter.all false
set_option maxRecDepth 100000
set_option maxHeartbeats 4000000
/-! reduced, only_point. -/
namespace Ck
open PySem PySem.Spec PyProof.Rows L2
/-- a promise whose answer is told by what holds of it -/
def spR (K : Fg) (P : List PyData → (PyData → Prop) → Prop) : Sp := fun vs H Q _ => ∃ ds R, DpAll K H vs ds ∧ P ds R ∧ ∀ r, R r → ∀ v H', Same H H' → Dn K H H' v r → Q v H'
def nn : Nat → Nat
  | 0 => 16
  | c + 1 => 2 * nn c + 1
def dd : Nat → Nat
  | 0 => 16
  | c + 1 => dd c + nn c
theorem dd_le : ∀ c, dd c ≤ nn c
  | 0 => Nat.le_refl _
  | c + 1 => by have := dd_le c; show dd c + nn c ≤ 2 * nn c + 1; omega
theorem nn_le {c : Nat} (h : c ≤ 5) : nn c ≤ 543 := by
  rcases c with _ | _ | _ | _ | _ | _ | c
  · decide
  · decide
  · decide
  · decide
  · decide
  · decide
  · omega
/-- between two rows: the row c has its pivot, the rows below t are cleared -/
def mid (G : Mx) (c t : Nat) : Mx := fun i j => if i = c then G c j / G c c else if i < t then G i j - G i c * (G c j / G c c) else G i j
section
variable {P : Program} {w : World} {K : Fg} {mg : Str → Option Value} {base : Heap}
theorem okR {x qual : Str} {st : Stmt} {f : Addr} {fd : FuncData} {N ps : List Str} {k : Nat} {Pd : List PyData → (PyData → Prop) → Prop} (F : Fun K x qual st f fd) (S : FnScope N ps (defScope st)) (len : ∀ ds r, Pd ds r → ds.length = ps.length)
    (hbody : ∀ (cdv : Value) (A : Around) (outer : List Env) (s : Shared) (H : Hp) (vs : List V) (Q : VK) (E : XK) (ds : List PyData) (R : PyData → Prop), Room k (A.deeper (envOfC qual (defScope st) s.heap.objs.size f cdv)) → DpAll K H vs ds → Pd ds R → (∀ r, R r → ∀ v H', Same H H' → Dn K H H' v r → Q v H') →
      ∃ t, PSs (cxOf CX0 P w K mg base N qual (defScope st) f cdv A outer s H E).nox (defBody st) t ∧ t { nx := fun _ H' => Q .non H', rt := Q } (start N vs) H) : FnOk P w K mg base CX0 (k + 1) f fd ps (spR K Pd) :=
  F.ok S (fun vs H Q E ⟨ds, r, hv, hp, _⟩ => (DpAll.len hv).trans (len ds r hp)) fun cdv A outer s H vs Q E hr ⟨ds, r, hv, hp, q⟩ => hbody cdv A outer s H vs Q E ds r hr hv hp q
theorem r_call {σ : L2.St} {H : Hp} {tr : TA} {ds : List PyData} {Pd : List PyData → (PyData → Prop) → Prop} {E : XK} {R : PyData → Prop} {Q : VK} (ha : Az K tr σ H ds) (hp : Pd ds R) (q : ∀ r, R r → ∀ v H', Same H H' → Dn K H H' v r → Q v H') : tCall (spR K Pd) [] E tr σ H Q :=
  ha H (Same.refl _) _ fun vs H2 s2 dv => ⟨ds, R, by rw [List.append_nil]; exact dv, hp, fun r hr v H3 s3 dn => q r hr v H3 (s2.trans s3) (Dn.anti s2 dn)⟩
/-- list(row) -/
theorem n_list {σ : L2.St} {H : Hp} {ta : TE} {ds : List PyData} (ha : Ez K ta σ H (.list ds)) (f : flatDs ds = true) : En K (tCB (rListOf K) (tCons ta tNil)) σ H (.list ds) := n_cb (a_one ha) fun vs H1 s dv Q q => by
  obtain ⟨x, rfl, dx⟩ := one_of dv
  obtain ⟨a, xs, rfl, hs, hx⟩ := dx.isLst
  exact ⟨a, xs, rfl, .inl hs, fun l nl => q _ _ (same_new nl) (.lst nl upd_same (DnAll.fresh nl (L2.DpAll.dn (H0 := H1) f hx)))⟩
theorem flat_frs {n : Nat} {f : Nat → Rat} : flatDs (tab n fun j => frD (f j)) = true := flats_tab fun _ => rfl
theorem pick_head {n : Nat} {p : Nat → Bool} {gd : Nat → PyData} {i : Nat} (hi : i < n) (hp : p i = true) : ∃ i0, i0 < n ∧ p i0 = true ∧ (pick n p gd)[0]? = some (gd i0) := by
  unfold pick
  cases e : (List.range n).filter p with
  | nil =>
    have : i ∈ (List.range n).filter p := List.mem_filter.mpr ⟨List.mem_range.mpr hi, hp⟩
    rw [e] at this; cases this
  | cons a l =>
    have : a ∈ (List.range n).filter p := by rw [e]; exact List.mem_cons_self
    obtain ⟨h1, h2⟩ := List.mem_filter.mp this
    exact ⟨a, List.mem_range.mp h1, h2, rfl⟩
theorem tab_ints {n : Nat} {f : Nat → Int} : (tab n fun i => .int (f i)) = ((rg n).map f).map PyData.int := by
  unfold tab; rw [List.map_map]; rfl
theorem pick_ints {n : Nat} {p : Nat → Bool} {f : Nat → Int} : (pick n p fun i => .int (f i)) = (((List.range n).filter p).map f).map PyData.int := by
  unfold pick; rw [List.map_map]; rfl
abbrev s_reduced : Stmt := topS 28
abbrev N_reduced : List Str := ["rows", "columns", "made", "pivots", "column", "at", "found", "head", "k", "row", "one"]
theorem sc_reduced : FnScope N_reduced ["rows", "columns"] (defScope s_reduced) := ⟨rfl, rfl, rfl, by decide +kernel, rfl, by decide +kernel, by decide +kernel⟩
theorem b_reduced (T : Txt K mg) : Binds K (T.fd 14) ["rows", "columns"] [] := (T.F 14 _ rfl).binds (ps := ["rows", "columns"]) fun _ _ _ _ _ _ us hl => match us, hl with | [_, _], _ => rfl

def PRed : List PyData → (PyData → Prop) → Prop := fun ds R => ∃ (m w : Nat) (F : Mx) (x : Nat → Rat), ds = [matL m (w + 1) F, .int w] ∧ w ≤ m ∧ m ≤ 8 ∧ w ≤ 5 ∧ Sys m w F x ∧ Siz m w F 16 16 ∧
  R = fun r => ∃ G : Mx, (∀ k, k < w → G k w = x k) ∧ r = .tuple [matL m (w + 1) G, .list (tab w fun i => .int (i : Int))]
theorem ok_reduced (T : Txt K mg) : FnOk P w K mg base CX0 3 (T.fa 14) (T.fd 14) ["rows", "columns"] (spR K PRed) := by
  refine okR (T.F 14 _ rfl) sc_reduced (fun ds r h => ?_) (fun cdv A outer s H vs Q E ds R hr hv hp q => ?_)
  · obtain ⟨_, _, _, _, rfl, _⟩ := h; rfl
  · obtain ⟨m, w', F0, x, rfl, hwm, hm, hw, S0, Z0, rfl⟩ := hp
    obtain ⟨u, u2, rfl, du, du2⟩ := two_of hv
    cases du2
    refine ⟨_, (pss_cons (ps_set (i := 2) sc_reduced.nd rfl (Or.inr rfl) (pe_lc (own := [("row", 9)])  rfl sc_reduced.nd (pi_listK K (pv 0)) (blkOk_by (N := N_reduced) (sc := defScope s_reduced) (by decide +kernel)) (fun _ _ _ _ _ => (pg_name (i := 9) sc_reduced.nd rfl (Or.inl rfl))) (fun _ _ _ _ _ => pts_nil) (fun _ _ _ _ _ => (pe_callTy (call_listK K) (by rfl) (T.n "list") (by decide +kernel) (pa_cons (pv 9) pa_nil)))))
      (pss_cons (ps_set (i := 3) sc_reduced.nd rfl (Or.inl rfl) (pe_lst pa_nil))
      (pss_cons (ps_for PassesOwn.never rfl (pi_range1 (by rfl) (T.n "range") (pa_cons (pv 1) pa_nil)) (pg_name (i := 4) sc_reduced.nd rfl (Or.inr rfl))
       (pss_cons (ps_set (i := 5) sc_reduced.nd rfl (Or.inl rfl) (pe_callB (call_lenK K) (by rfl) (T.n "len") PySem.boot_len (pa_cons (pv 3) pa_nil)))
       (pss_cons (ps_setLc (i := 6) (own := [("k", 8)])  rfl sc_reduced.nd rfl rfl (sw_true rfl rfl rfl (by decide +kernel)) (pi_range2 (by rfl) (T.n "range") (pa_cons (pv 5) (pa_cons (pe_callB (call_lenK K) (by rfl) (T.n "len") PySem.boot_len (pa_cons (pv 2) pa_nil)) pa_nil))) (blkOk_by (N := N_reduced) (sc := defScope s_reduced) (by decide +kernel)) (fun _ _ _ _ _ => (pg_name (i := 8) sc_reduced.nd rfl (Or.inl rfl))) (fun _ _ _ _ _ => (pts_one (pt_cmpR (op_neK K hr.units) (pe_ix (ix_seqK K) (pe_ix (ix_seqK K) (pe_ix (ix_seqK K) (pv 2) (pv 8) (fun _ _ => rfl)) (pv 4) (fun _ _ => rfl)) pe_int (fun _ _ => rfl)) pe_int (nomark _)))) (fun _ _ _ _ _ => (pv 8)))
       (pss_one (ps_if (pt_cmpR (op_neK K hr.units) (pv 6) (pe_lst pa_nil) (nomark _))
        (pss_cons (ps_asg (pe_tup (pa_cons (pe_ix (ix_seqK K) (pv 2) (pe_ix (ix_seqK K) (pv 6) pe_int (fun _ _ => rfl)) (fun _ _ => rfl)) (pa_cons (pe_ix (ix_seqK K) (pv 2) (pv 5) (fun _ _ => rfl)) pa_nil))) (pg_tupK K (n := 2) rfl (pgs_cons (pg_sub (pv 2) (pv 5) set_list) (pgs_cons (pg_sub (pv 2) (pe_ix (ix_seqK K) (pv 6) pe_int (fun _ _ => rfl)) set_list) pgs_nil))))
        (pss_cons (ps_set (i := 7) sc_reduced.nd rfl (Or.inr rfl) (pe_ix (ix_seqK K) (pe_ix (ix_seqK K) (pv 2) (pv 5) (fun _ _ => rfl)) (pv 4) (fun _ _ => rfl)))
        (pss_cons (ps_asg (pe_lc (own := [("one", 10)])  rfl sc_reduced.nd (pi_listK K (pe_ix (ix_seqK K) (pv 2) (pv 5) (fun _ _ => rfl))) (blkOk_by (N := N_reduced) (sc := defScope s_reduced) (by decide +kernel)) (fun _ _ _ _ _ => (pg_name (i := 10) sc_reduced.nd rfl (Or.inl rfl))) (fun _ _ _ _ _ => pts_nil) (fun _ _ _ _ _ => (pe_call (ok_fraction T) (hr.mono (by decide)) (by rfl) (T.g 7 _ rfl) (T.F 7 _ rfl).kp (b_fraction T) .nil pass0 (pa_cons (pe_op op_mulX (pe_ix (ix_seqK K) (pv 10) pe_int (fun _ _ => rfl)) (pe_ix (ix_seqK K) (pv 7) pe_int (fun _ _ => rfl))) (pa_cons (pe_op op_mulX (pe_ix (ix_seqK K) (pv 10) pe_int (fun _ _ => rfl)) (pe_ix (ix_seqK K) (pv 7) pe_int (fun _ _ => rfl))) pa_nil))))) (pg_sub (pv 2) (pv 5) set_list))
        (pss_cons (ps_for PassesOwn.never rfl (pi_range1 (by rfl) (T.n "range") (pa_cons (pe_callB (call_lenK K) (by rfl) (T.n "len") PySem.boot_len (pa_cons (pv 2) pa_nil)) pa_nil)) (pg_name (i := 8) sc_reduced.nd rfl (Or.inl rfl))
         (pss_one (ps_if (PW.pt (pw_and (pt_cmpR (op_neK K hr.units) (pv 8) (pv 5) (nomark _)) (pw_and1 (pt_cmpR (op_neK K hr.units) (pe_ix (ix_seqK K) (pe_ix (ix_seqK K) (pe_ix (ix_seqK K) (pv 2) (pv 8) (fun _ _ => rfl)) (pv 4) (fun _ _ => rfl)) pe_int (fun _ _ => rfl)) pe_int (nomark _)))))
          (pss_one (ps_asg (pe_call (ok_cleared T) (hr.mono (by decide)) (by rfl) (T.g 13 _ rfl) (T.F 13 _ rfl).kp (b_cleared T) .nil pass0 (pa_cons (pe_ix (ix_seqK K) (pv 2) (pv 8) (fun _ _ => rfl)) (pa_cons (pe_ix (ix_seqK K) (pe_ix (ix_seqK K) (pv 2) (pv 8) (fun _ _ => rfl)) (pv 4) (fun _ _ => rfl)) (pa_cons (pe_ix (ix_seqK K) (pv 2) (pv 5) (fun _ _ => rfl)) pa_nil)))) (pg_sub (pv 2) (pv 8) set_list)))
          pss_nil)))
        (pss_one (ps_expr (pe_appK K (pv 3) (pa_cons (pv 4) pa_nil))))))))
        pss_nil)))))
      (pss_one (ps_ret (pe_tup (pa_cons (pv 2) (pa_cons (pv 3) pa_nil)))))))), ?_⟩
    -- made
    refine s_setN (K := K) (d := matL m (w' + 1) F0) ?_ fun v1 H1 s1 d1 => ?_
    · have h := n_lcA (K := K) (σ := start N_reduced [u, .int w']) (H := H) (vs := [9]) (j := 9) (te := tCB (rListOf K) (tCons (tVar 9) tNil)) (gd := fun i => rowL (w' + 1) (F0 i)) (src_list (p_var (i := 0) rfl du)).g (by rw [tab_len]; omega) (fun i hi x H1 s dx => by
        rw [tab_len] at hi
        rw [tab_getD hi] at dx
        exact n_list (z_var (i := 9) rfl dx) flat_frs)
      rw [tab_len] at h
      exact h
    obtain ⟨ma, rfl, nm, I1⟩ := LcF.of s1 d1
    refine s_setnil fun pa np => ?_
    have npH : H pa = none := s1.free np
    have hpm : pa ≠ ma := fun e => by
      obtain ⟨acc, h1, _⟩ := I1.acc
      rw [e, h1] at np; cases np
    have I1' := I1.beside (o := .lst []) (o' := .lst []) np
    have J1 : LcInv K H pa [] (upd H1 pa (.lst [])) := ⟨s1.trans (same_new np), fun a e => s1.free (upd_none e).2, fun _ e => e, [], upd_same, .nil⟩
    refine s_forHS (K := K) (Hb := H) (n := w') (it := fun i => .int (i : Int)) (fun c σ' H' => ∃ (F : Mx) (y4 y5 y6 y7 y8 : Option V), σ' = [some u, some (.int w'), some (.ref ma), some (.ref pa), y4, y5, y6, y7, y8, none, none] ∧ RInv m w' c F x ∧ Siz m w' F (dd c) (nn c) ∧ LcF K H (upd H pa (.lst [])) ma (tab m fun i => rowL (w' + 1) (F i)) H' ∧ LcInv K H pa (tab c fun i => .int (i : Int)) H')
      ((src_r1 (ap_one (p_var (i := 1) rfl (.int _))) (by omega)).h I1'.same) ⟨F0, none, none, none, none, none, rfl, { toSys := S0, unit := fun _ _ _ h => absurd h (Nat.not_lt_zero _) }, Z0, I1', J1⟩ (fun i σ' H' p => ?_) (fun c σ' H' hc p x4 dx4 => ?_) (fun σ' H' p => ?_)
    · obtain ⟨_, _, _, _, _, _, _, _, _, _, J⟩ := p; exact J.same
    · obtain ⟨F, y4, y5, y6, y7, y8, rfl, RI, Z, I, J⟩ := p
      cases dx4
      have hnn := nn_le (c := c) (by omega)
      have hdn := dd_le c
      have bF : ∀ {k j}, k < m → j ≤ w' → Bd 543 (F k j) := fun hk hj => (Z.bd hdn hk hj).mono hnn
      have hcm : c < m := by omega
      -- at = len(pivots)
      refine s_set (K := K) (d := .int c) (z_varlen J npH rfl tab_len) fun x5 H2 s2 d2 => ?_
      cases d2
      have I2 := LcF.same' I s2
      have J2 := LcF.same' J s2
      have dm2 : Dp K H2 (.ref ma) (matL m (w' + 1) F) := (LcF.dn nm I2).dp
      -- found
      refine s_setN (K := K) (d := .list (pick (m - c) (fun i => !decide (F (c + i) c = 0)) fun i => .int ((c : Int) + (i : Nat)))) ?_ fun x6 H3 s3 d3 => ?_
      · refine n_lc (Src1.g (src_r2 (a := (c : Int)) (n := m - c) (ap_cons (p_var (i := 5) rfl (.int _)) (ap_one ?_)) (by omega) (by omega))) (by omega) (fun i hi z Hz sz dz => ?_) (fun i hi _ z Hz sz dz => ?_)
        · have h := p_lenL (K := K) (σ := [some u, some (.int w'), some (.ref ma), some (.ref pa), some (.int c), some (.int c), y6, y7, y8, none, none]) (p_var (i := 2) rfl dm2)
          rw [tab_len] at h
          rw [show (c : Int) + ((m - c : Nat) : Int) = (m : Int) by omega]
          exact h
        · cases dz
          refine t_val (z_nz (z_rowL (z_matL (i := c + i) (z_var (i := 2) rfl (L2.Dp.mono sz dm2)) (z_var (i := 8) rfl ?_) (by omega)) (z_var (i := 4) rfl (.int _)) (by omega)))
          rw [Int.natCast_add]; exact .int _
        · cases dz
          exact (z_var (i := 8) rfl (.int _)).en
      have I3 := LcF.same' I2 s3
      have J3 := LcF.same' J2 s3
      have df : Dp K H3 x6 (.list (pick (m - c) (fun i => !decide (F (c + i) c = 0)) fun i => .int ((c : Int) + (i : Nat)))) := d3.dp
      obtain ⟨k0, hk0, hk0m, hk0F⟩ := RI.piv hc
      obtain ⟨i0, hi0, hi0p, hi0g⟩ := pick_head (n := m - c) (p := fun i => !decide (F (c + i) c = 0)) (gd := fun i => .int ((c : Int) + (i : Nat))) (i := k0 - c) (by omega) (by
        show (!decide (F (c + (k0 - c)) c = 0)) = true
        rw [show c + (k0 - c) = k0 by omega, decide_eq_false hk0F]; rfl)
      have hfn : F (c + i0) c ≠ 0 := fun e => by
        have h : (!decide (F (c + i0) c = 0)) = true := hi0p
        rw [decide_eq_true e] at h; cases h
      have hfm : c + i0 < m := by omega
      -- found != []
      refine s_if1 (b := true) ?_ (fun _ H4 s4 => ?_) (fun h => by cases h)
      · have h := z_neD (K := K) (σ := [some u, some (.int w'), some (.ref ma), some (.ref pa), some (.int c), some (.int c), some x6, y7, y8, none, none]) (z_var (i := 6) rfl df) (z_lst a_nil) (by rw [pick_ints]; exact (shp_ints).ok) rfl
        rw [eqv_nil] at h
        have e : (pick (m - c) (fun i => !decide (F (c + i) c = 0)) fun i => .int ((c : Int) + (i : Nat))).isEmpty = false := by
          cases e : pick (m - c) (fun i => !decide (F (c + i) c = 0)) fun i => .int ((c : Int) + (i : Nat)) with
          | nil => rw [e] at hi0g; cases hi0g
          | cons a l => rfl
        rw [e] at h
        exact t_val h
      have I4 := LcF.same' I3 s4
      have J4 := LcF.same' J3 s4
      have zf : ∀ {H' : Hp} {y7 y8 : Option V}, Dp K H' x6 (.list (pick (m - c) (fun i => !decide (F (c + i) c = 0)) fun i => .int ((c : Int) + (i : Nat)))) → Ez K (tOp (rIx K) (tVar 6) (tC (.int 0))) [some u, some (.int w'), some (.ref ma), some (.ref pa), some (.int c), some (.int c), some x6, y7, y8, none, none] H' (.int ((c + i0 : Nat) : Int)) := fun dq => by
        rw [Int.natCast_add]
        exact z_ixL (i := 0) (z_var (i := 6) rfl dq) z_int hi0g
      -- the list found stands apart from made
      obtain ⟨fa, rfl, nfa, If⟩ := LcF.of s3 d3
      have hfa : fa ≠ ma := fun e => by
        obtain ⟨acc, h1, _⟩ := I2.acc
        rw [e, h1] at nfa; cases nfa
      have nfH : H fa = none := I2.same.free nfa
      have flp : flatDs (pick (m - c) (fun i => !decide (F (c + i) c = 0)) fun i => .int ((c : Int) + (i : Nat))) = true := by
        rw [pick_ints]
        have : ∀ l : List Int, flatDs (l.map PyData.int) = true := fun l => by
          induction l with
          | nil => rfl
          | cons a l ih => exact ih
        exact this _
      have IfH : LcInv K H fa (pick (m - c) (fun i => !decide (F (c + i) c = 0)) fun i => .int ((c : Int) + (i : Nat))) H3 := ⟨I3.same, fun a e => I2.same.free (If.fr a e), fun _ e => e, let ⟨acc, h1, h2⟩ := If.acc; ⟨acc, h1, L2.DpAll.dn flp h2.dp⟩⟩
      have If4 := LcF.same' IfH s4
      obtain ⟨acc4, hacc4, _⟩ := id I4.acc
      have dfX : ∀ {H'}, SameX ma H4 H' → LcInv K H fa (pick (m - c) (fun i => !decide (F (c + i) c = 0)) fun i => .int ((c : Int) + (i : Nat))) H' := fun sx => LcF.other If4 flp nm hfa hacc4 sx
      have JX : ∀ {H'}, SameX ma H4 H' → LcInv K H pa (tab c fun i => .int (i : Int)) H' := fun sx => LcF.other J4 (flats_tab fun _ => rfl) nm hpm hacc4 sx
      -- the swap
      refine s_swap (K := K) (c := c) (f := c + i0) (i := 2) (m := ma) rfl nm I4 (tab_at hcm) (tab_at hfm) (fun H' s' sx => z_var (i := 5) rfl (.int _)) (fun H' s' sx => zf (LcF.dn nfH (dfX sx)).dp) fun H5 I5 sx5 => ?_
      have e5 : ((tab m fun i => rowL (w' + 1) (F i)).set c (rowL (w' + 1) (F (c + i0)))).set (c + i0) (rowL (w' + 1) (F c)) = tab m fun i => rowL (w' + 1) (swp F c (c + i0) i) := by
        rw [tab_set, tab_set]
        refine tab_congr fun i hi => ?_
        unfold swp
        by_cases h1 : i = c + i0
        · rw [if_pos h1]
          by_cases h2 : i = c
          · rw [if_pos h2]; congr 1; rw [← h1, h2]
          · rw [if_neg h2, if_pos h1]
        · rw [if_neg h1]
          by_cases h2 : i = c
          · rw [if_pos h2, if_pos h2]
          · rw [if_neg h2, if_neg h2, if_neg h1]
      rw [e5] at I5
      have hstp : ∀ i j, i < m → stp F c (c + i0) i j = mid (swp F c (c + i0)) c m i j := fun i j hi => by
        unfold stp mid
        by_cases h : i = c
        · rw [if_pos h, if_pos h]
        · rw [if_neg h, if_neg h, if_pos hi]
      have R' := RI.step hc hfm (by omega) hfn
      have Z' := Z.step hdn (by omega) hfm (by omega) hfn
      have bG : ∀ {k j}, k < m → j ≤ w' → Bd 543 (swp F c (c + i0) k j) := fun {k j} hk hj => by
        obtain ⟨i, hi, e⟩ := swp_lt (F := F) hcm hfm hk
        rw [e]; exact bF hi hj
      have hpiv : swp F c (c + i0) c c ≠ 0 := by unfold swp; rw [if_pos rfl]; exact hfn
      generalize hGdef : swp F c (c + i0) = G at *
      have dm5 : Dp K H5 (.ref ma) (matL m (w' + 1) G) := (LcF.dn nm I5).dp
      -- head
      refine s_set (K := K) (d := frD (G c c)) (z_rowL (z_matL (z_var (i := 2) rfl dm5) (z_var (i := 5) rfl (.int _)) hcm) (z_var (i := 4) rfl (.int _)) (by omega)) fun x7 H6 s6 d6 => ?_
      have I6 := LcF.same' I5 s6
      have dm6 : Dp K H6 (.ref ma) (matL m (w' + 1) G) := (LcF.dn nm I6).dp
      -- made[at] = [.. for one in made[at]]
      refine s_setit (K := K) (m := ma) (j := c) (d := rowL (w' + 1) fun j => G c j / G c c) rfl nm I6 (by rw [tab_len]; exact hcm) ?_ (fun H' s' => z_var (i := 5) rfl (.int _)) fun H7 I7 sx7 => ?_
      · have h := n_lcA (K := K) (σ := [some u, some (.int w'), some (.ref ma), some (.ref pa), some (.int c), some (.int c), some (.ref fa), some x7, y8, none, none]) (H := H6) (vs := [10]) (j := 10) (te := tCall (spD K fun ds r => ∃ a b : Int, ds = [.int a, .int b] ∧ b ≠ 0 ∧ b.natAbs < 2 ^ 9000 ∧ r = frD ((a : Rat) / b)) [] E0 (tCons (tOp (rI IntMulOk fun i j => .int (i * j)) (tOp (rIx K) (tVar 10) (tC (.int 0))) (tOp (rIx K) (tVar 7) (tC (.int 1)))) (tCons (tOp (rI IntMulOk fun i j => .int (i * j)) (tOp (rIx K) (tVar 10) (tC (.int 1))) (tOp (rIx K) (tVar 7) (tC (.int 0)))) tNil)))
          (gd := fun j => frD (G c j / G c c)) (src_list (p_ixL (i := c) (p_var (i := 2) rfl dm6) (p_var (i := 5) rfl (.int _)) (tab_at hcm))).g (by rw [tab_len]; omega) (fun j hj z Hz sz dz => ?_)
        · rw [tab_len] at h
          exact h
        · rw [tab_len] at hj
          rw [tab_getD hj] at dz
          have zz : Ez K (tVar 10) (([some u, some (.int w'), some (.ref ma), some (.ref pa), some (.int c), some (.int c), some (.ref fa), some x7, y8, none, none] : L2.St).set 10 (some z)) Hz (frD (G c j)) := z_var (i := 10) rfl dz
          have zh : Ez K (tVar 7) (([some u, some (.int w'), some (.ref ma), some (.ref pa), some (.int c), some (.int c), some (.ref fa), some x7, y8, none, none] : L2.St).set 10 (some z)) Hz (frD (G c c)) := z_var (i := 7) rfl (L2.Dp.mono sz d6)
          have b1 := bG hcm (show j ≤ w' by omega)
          have b2 := bG hcm (show c ≤ w' by omega)
          refine n_call (a_cons (z_mul (z_num zz) (z_den zh) (mulok b1.1 (nat_abs b2.2) (by omega))) (a_one (z_mul (z_den zz) (z_num zh) (mulok (nat_abs b1.2) b2.1 (by omega))))) ⟨_, _, rfl, ?_, lt_pw (natAbs_mul_lt (nat_abs b1.2) b2.1) (by omega), ?_⟩
          · have h1 := (G c j).den_pos
            exact Int.mul_ne_zero (by omega) (fun e => hpiv (Rat.num_eq_zero.mp e))
          · rw [q_div _ _ hpiv]
      have e7 : (tab m fun i => rowL (w' + 1) (G i)).set c (rowL (w' + 1) fun j => G c j / G c c) = tab m fun i => rowL (w' + 1) (mid G c 0 i) := by
        rw [tab_set]
        refine tab_congr fun i hi => ?_
        by_cases h : i = c
        · rw [if_pos h]; refine rowL_congr fun j _ => ?_; unfold mid; rw [if_pos h]
        · rw [if_neg h]; refine rowL_congr fun j _ => ?_; unfold mid; rw [if_neg h, if_neg (Nat.not_lt_zero _)]
      rw [e7] at I7
      have sx47 := (sx5.trans (.of s6)).trans sx7
      have dm7 : Dp K H7 (.ref ma) (.list (tab m fun i => rowL (w' + 1) (mid G c 0 i))) := (LcF.dn nm I7).dp
      have bM : ∀ {j}, j ≤ w' → Bd 1087 (G c j / G c c) := fun {j} hj => by
        have h := Z'.bd (show dd c + nn c ≤ 2 * nn c + 1 by omega) hcm hj
        rw [hstp c j hcm] at h
        have e : mid G c m c j = G c j / G c c := by unfold mid; rw [if_pos rfl]
        rw [e] at h
        exact h.mono (by omega)
      -- the other rows
      refine s_forHS (K := K) (Hb := H) (n := m) (it := fun i => .int (i : Int)) (fun t σ' H' => ∃ y8 : Option V, σ' = [some u, some (.int w'), some (.ref ma), some (.ref pa), some (.int c), some (.int c), some (.ref fa), some x7, y8, none, none] ∧ LcF K H (upd H pa (.lst [])) ma (tab m fun i => rowL (w' + 1) (mid G c t i)) H' ∧ SameX ma H4 H')
        (srcH_r1 (ap_one ?_) (by omega)) ⟨y8, rfl, I7, sx47⟩ (fun i σ' H' p => ?_) (fun t σ' H' ht p x8 dx8 => ?_) (fun σ' H' p => ?_)
      · have h := p_lenL (K := K) (σ := [some u, some (.int w'), some (.ref ma), some (.ref pa), some (.int c), some (.int c), some (.ref fa), some x7, y8, none, none]) (p_var (i := 2) rfl dm7)
        rw [tab_len] at h
        exact h
      · obtain ⟨_, _, I', _⟩ := p; exact I'.same
      · obtain ⟨y8', rfl, I8, sx8⟩ := p
        cases dx8
        have dm8 : Dp K H' (.ref ma) (matL m (w' + 1) (mid G c t)) := (LcF.dn nm I8).dp
        have zm : ∀ {i : Nat} {ti : TE} {H2 : Hp}, Same H' H2 → Ez K ti [some u, some (.int w'), some (.ref ma), some (.ref pa), some (.int c), some (.int c), some (.ref fa), some x7, some (.int t), none, none] H2 (.int i) → i < m → Ez K (tOp (rIx K) (tVar 2) ti) [some u, some (.int w'), some (.ref ma), some (.ref pa), some (.int c), some (.int c), some (.ref fa), some x7, some (.int t), none, none] H2 (rowL (w' + 1) (mid G c t i)) := fun s hi hlt => z_matL (z_var (i := 2) rfl (L2.Dp.mono s dm8)) hi hlt
        refine s_if1 (b := (!decide ((t : Int) = (c : Int))) && (!decide (mid G c t t c = 0))) (t_and (t_val (z_neI (z_var (i := 8) rfl (.int _)) (z_var (i := 5) rfl (.int _)))) fun _ => t_val (z_nz (z_rowL (zm (Same.refl _) (z_var (i := 8) rfl (.int _)) ht) (z_var (i := 4) rfl (.int _)) (by omega)))) (fun hb H9 s9 => ?_) (fun hb H9 s9 => ?_)
        · have htc : t ≠ c := fun e => by
            rw [e, decide_eq_true rfl] at hb; cases hb
          have et : ∀ j, mid G c t t j = G t j := fun j => by unfold mid; rw [if_neg htc, if_neg (Nat.lt_irrefl _)]
          have ec : ∀ j, mid G c t c j = G c j / G c c := fun j => by unfold mid; rw [if_pos rfl]
          have I9 := LcF.same' I8 s9
          refine s_setit1 (K := K) (m := ma) (j := t) (d := rowL (w' + 1) fun j => G t j - G t c * (G c j / G c c)) rfl nm I9 (by rw [tab_len]; exact ht) ?_ (fun H' s' => z_var (i := 8) rfl (.int _)) fun H10 I10 sx10 => ?_
          · refine n_call (a_cons (zm s9 (z_var (i := 8) rfl (.int _)) ht) (a_cons (z_rowL (zm s9 (z_var (i := 8) rfl (.int _)) ht) (z_var (i := 4) rfl (.int _)) (show c < w' + 1 by omega)) (a_one (zm s9 (z_var (i := 5) rfl (.int _)) hcm)))) ⟨w' + 1, mid G c t t, mid G c t c, mid G c t t c, 543, 543, 1087, rfl, by omega, fun j hj => ?_, ?_, fun j hj => ?_, by omega, ?_⟩
            · rw [et]; exact bG ht (by omega)
            · rw [et]; exact bG ht (by omega)
            · rw [ec]; exact bM (by omega)
            · exact rowL_congr fun j _ => by rw [et, et, ec]
          · refine ⟨_, rfl, ?_, (sx8.trans (.of s9)).trans sx10⟩
            have e : (tab m fun i => rowL (w' + 1) (mid G c t i)).set t (rowL (w' + 1) fun j => G t j - G t c * (G c j / G c c)) = tab m fun i => rowL (w' + 1) (mid G c (t + 1) i) := by
              rw [tab_set]
              refine tab_congr fun i hi => ?_
              by_cases h : i = t
              · rw [if_pos h]; refine rowL_congr fun j _ => ?_; unfold mid; rw [if_neg (by omega), if_pos (by omega), h]
              · rw [if_neg h]; refine rowL_congr fun j _ => ?_; unfold mid
                by_cases h2 : i = c
                · rw [if_pos h2, if_pos h2]
                · rw [if_neg h2, if_neg h2]
                  by_cases h3 : i < t
                  · rw [if_pos h3, if_pos (by omega)]
                  · rw [if_neg h3, if_neg (by omega)]
            rw [e] at I10
            exact I10
        · refine ⟨_, rfl, ?_, sx8.trans (.of s9)⟩
          have I9 := LcF.same' I8 s9
          have e : (tab m fun i => rowL (w' + 1) (mid G c t i)) = tab m fun i => rowL (w' + 1) (mid G c (t + 1) i) := by
            refine tab_congr fun i hi => rowL_congr fun j _ => ?_
            unfold mid
            by_cases h2 : i = c
            · rw [if_pos h2, if_pos h2]
            · rw [if_neg h2, if_neg h2]
              by_cases h3 : i < t
              · rw [if_pos h3, if_pos (by omega)]
              · rw [if_neg h3]
                by_cases h4 : i < t + 1
                · rw [if_pos h4]
                  have hit : i = t := by omega
                  subst hit
                  have h5 : mid G c i i c = G i c := by unfold mid; rw [if_neg h2, if_neg (Nat.lt_irrefl _)]
                  rw [h5] at hb
                  have h6 : G i c = 0 := by
                    by_cases h7 : G i c = 0
                    · exact h7
                    · rw [decide_eq_false h7, decide_eq_false (show ¬ (i : Int) = (c : Int) by omega)] at hb; cases hb
                  rw [h6]; grind
                · rw [if_neg h4]
          rw [e] at I9
          exact I9
      · -- pivots.append(column)
        obtain ⟨y8', rfl, I8, sx8⟩ := p
        have J8 := JX sx8
        obtain ⟨pacc, hpacc, _⟩ := id J8.acc
        refine s_app (K := K) (m := 3) (a := pa) rfl npH J8 (by rw [tab_len]; omega) (d := .int c) (z_var (i := 4) rfl (.int _)).en fun H9 J9 sx9 => ?_
        refine ⟨stp F c (c + i0), _, _, _, _, _, rfl, R', Z', ?_, ?_⟩
        · have I9 := LcF.otherL (o := .lst []) I8 upd_same npH (Ne.symm hpm) hpacc sx9
          have e : (tab m fun i => rowL (w' + 1) (mid G c m i)) = tab m fun i => rowL (w' + 1) (stp F c (c + i0) i) :=
            tab_congr fun i hi => rowL_congr fun j _ => (hstp i j hi).symm
          rw [e] at I9
          exact I9
        · rw [tab_succ]; exact J9
    · -- return (made, pivots)
      obtain ⟨F, y4, y5, y6, y7, y8, rfl, RI, Z, I, J⟩ := p
      refine ⟨.ref ma, rfl, .ref pa, rfl, by show 2 ≤ sizeLine; decide, fun t nt => ?_⟩
      have st := same_new (o := .tup [.ref ma, .ref pa]) nt
      exact q _ ⟨F, RI.last hwm, rfl⟩ _ _ (I.same.trans st) (.tup (SqT.of upd_same) (.cons (Dn.mono st (LcF.dn nm I)) (.cons (Dn.mono st (LcF.dn npH J)) .nil)))
end
end Ck
end

section
set_option Elab.async false
set_option linter.all false
set_option maxRecDepth 100000
set_option maxHeartbeats 4000000
/-! only_point; fills. -/
namespace Ck
open PySem PySem.Spec PyProof.Rows L2
section
variable {P : Program} {w : World} {K : Fg} {mg : Str → Option Value} {base : Heap}
/-- rows with their right sides -/
def aug (A : Mx) (b : Nat → Rat) (w : Nat) : Mx := fun i j => if j < w then A i j else b i
theorem n_cat {σ : L2.St} {H : Hp} {ta tb : TE} {ds es : List PyData} (ha : En K ta σ H (.list ds)) (hb : En K tb σ H (.list es)) (fa : flatDs ds = true) (fb : flatDs es = true) (hl : ds.length + es.length ≤ 1000) : En K (tOp (rCatX K) ta tb) σ H (.list (ds ++ es)) :=
  n_op ha.ez hb.ez fun x y H1 s dx dy Q q => by
    obtain ⟨a, xs, rfl, hs, hx⟩ := dx.isLst
    obtain ⟨b, ys, rfl, hs2, hy⟩ := dy.isLst
    refine ⟨a, b, xs, ys, rfl, rfl, hs, hs2, ?_, fun p np => q _ _ (same_new np) (.lst np upd_same (DnAll.fresh np (DnAll.app (L2.DpAll.dn (H0 := H1) fa hx) (L2.DpAll.dn fb hy))))⟩
    rw [hx.len, hy.len]
    exact Nat.le_trans hl (by decide)
theorem dn_pair {H0 H : Hp} {v : V} {d1 d2 : PyData} (h : Dn K H0 H v (.tuple [d1, d2])) : ∃ t x y, v = .ref t ∧ SqT K H t [x, y] ∧ Dn K H0 H x d1 ∧ Dn K H0 H y d2 := by
  cases h with
  | tup hT hx =>
    cases hx with
    | cons h1 h2 =>
      cases h2 with
      | cons h2 h3 => cases h3; exact ⟨_, _, _, rfl, hT, h1, h2⟩
theorem g2_any {σ : L2.St} {H : Hp} {j k : Nat} {x y : V} {T : Addr} {Q : L2.St → Hp → Prop} (hT : SqT K H T [x, y]) (q : Q ((σ.set j (some x)).set k (some y)) H) : g2 K j k (.ref T) σ H Q :=
  ⟨T, [x, y], rfl, hT, rfl, x, [y], rfl, y, [], rfl, rfl, q⟩
abbrev s_only_point : Stmt := topS 29
abbrev N_only_point : List Str := ["rows", "right", "width", "made", "pivots", "k", "row", "end"]
theorem sc_only_point : FnScope N_only_point ["rows", "right"] (defScope s_only_point) := ⟨rfl, rfl, rfl, by decide +kernel, rfl, by decide +kernel, by decide +kernel⟩
theorem b_only_point (T : Txt K mg) : Binds K (T.fd 15) ["rows", "right"] [] := (T.F 15 _ rfl).binds (ps := ["rows", "right"]) fun _ _ _ _ _ _ us hl => match us, hl with | [_, _], _ => rfl

def PPt : List PyData → PyData → Prop := fun ds r => ∃ (m w : Nat) (A : Mx) (b x : Nat → Rat), ds = [matL m w A, rowL m b] ∧ 1 ≤ w ∧ w ≤ m ∧ m ≤ 8 ∧ w ≤ 5 ∧ Sys m w (aug A b w) x ∧ Siz m w (aug A b w) 16 16 ∧ r = rowL w x
theorem ok_only_point (T : Txt K mg) : FnOk P w K mg base CX0 4 (T.fa 15) (T.fd 15) ["rows", "right"] (spD K PPt) := by
  refine okD (T.F 15 _ rfl) sc_only_point (fun ds r h => ?_) (fun cdv A0 outer s H vs Q E ds r hr hv hp q => ?_)
  · obtain ⟨_, _, _, _, _, rfl, _⟩ := h; rfl
  · obtain ⟨m, w', A, b, x, rfl, h1w, hwm, hm, hw, S, Z, rfl⟩ := hp
    obtain ⟨u, v, rfl, du, dv⟩ := two_of hv
    refine ⟨_, (pss_cons (ps_set (i := 2) sc_only_point.nd rfl (Or.inr rfl) (pe_callB (call_lenK K) (by rfl) (T.n "len") PySem.boot_len (pa_cons (pe_ix (ix_seqK K) (pv 0) pe_int (fun _ _ => rfl)) pa_nil)))
      (pss_cons (ps_asg (pe_call (ok_reduced T) (hr.mono (by decide)) (by rfl) (T.g 14 _ rfl) (T.F 14 _ rfl).kp (b_reduced T) .nil pass0 (pa_cons (pe_lc (own := [("row", 6), ("end", 7)])  rfl sc_only_point.nd (pi_zipK K (by rfl) (T.n "zip") (pa_cons (pv 0) (pa_cons (pv 1) pa_nil))) (blkOk_by (N := N_only_point) (sc := defScope s_only_point) (by decide +kernel)) (fun _ _ _ _ _ => (pg_tupK K (n := 2) rfl (pgs_cons (pg_name (i := 6) sc_only_point.nd rfl (Or.inl rfl)) (pgs_cons (pg_name (i := 7) sc_only_point.nd rfl (Or.inl rfl)) pgs_nil)))) (fun _ _ _ _ _ => pts_nil) (fun _ _ _ _ _ => (pe_op (op_catK K) (pe_callTy (call_listK K) (by rfl) (T.n "list") (by decide +kernel) (pa_cons (pv 6) pa_nil)) (pe_lst (pa_cons (pv 7) pa_nil))))) (pa_cons (pv 2) pa_nil))) (pg_tupK K (n := 2) rfl (pgs_cons (pg_name (i := 3) sc_only_point.nd rfl (Or.inr rfl)) (pgs_cons (pg_name (i := 4) sc_only_point.nd rfl (Or.inl rfl)) pgs_nil))))
      (pss_one (ps_ret (pe_lc (own := [("k", 5)])  rfl sc_only_point.nd (pi_range1 (by rfl) (T.n "range") (pa_cons (pe_callB (call_lenK K) (by rfl) (T.n "len") PySem.boot_len (pa_cons (pv 4) pa_nil)) pa_nil)) (blkOk_by (N := N_only_point) (sc := defScope s_only_point) (by decide +kernel)) (fun _ _ _ _ _ => (pg_name (i := 5) sc_only_point.nd rfl (Or.inl rfl))) (fun _ _ _ _ _ => pts_nil) (fun _ _ _ _ _ => (pe_ix (ix_seqK K) (pe_ix (ix_seqK K) (pv 3) (pv 5) (fun _ _ => rfl)) (pv 2) (fun _ _ => rfl)))))))), ?_⟩
    -- width = len(rows[0])
    refine s_set (K := K) (d := .int (w' : Int)) ?_ fun x2 H1 s1 d1 => ?_
    · have h := z_lenL (K := K) (σ := start N_only_point [u, v]) (H := H) (z_matL (m := m) (n := w') (F := A) (i := 0) (z_var (i := 0) rfl du) z_int (by omega))
      rw [tab_len] at h
      exact h
    cases d1
    -- made, pivots = reduced([list(row) + [end] ..], width)
    have e1 : Az K (tCons (tLc (iZipX K (tCons (tVar 0) (tCons (tVar 1) tNil))) (g2 K 6 7) tYes (tOp (rCatX K) (tCB (rListOf K) (tCons (tVar 6) tNil)) (tLst (tCons (tVar 7) tNil))) [6, 7]) (tCons (tVar 2) tNil)) [some u, some v, some (.int w'), none, none, none, none, none] H1 [matL m (w' + 1) (aug A b w'), .int w'] := by
      refine a_cons ?_ (a_one (z_var (i := 2) rfl (.int _)))
      have h := n_lc2A (K := K) (σ := [some u, some v, some (.int w'), none, none, none, none, none]) (H := H1) (vs := [6, 7]) (j := 6) (k := 7) (te := tOp (rCatX K) (tCB (rListOf K) (tCons (tVar 6) tNil)) (tLst (tCons (tVar 7) tNil))) (gd := fun i => rowL (w' + 1) (aug A b w' i))
        (src_zip (ap_cons (p_var (i := 0) rfl (L2.Dp.mono s1 du)) (ap_one (p_var (i := 1) rfl (L2.Dp.mono s1 dv)))) (.inl ⟨rfl, rfl⟩) (by rw [tab_len, tab_len])) (by rw [tab_len]; omega) (fun i hi y z H2 s2 dy dz => by
          rw [tab_len] at hi
          rw [tab_getD hi] at dy dz
          have hn := n_cat (K := K) (n_list (z_var (σ := (([some u, some v, some (.int w'), none, none, none, none, none] : L2.St).set 6 (some y)).set 7 (some z)) (i := 6) rfl dy) flat_frs) (n_lst (an_cons (Ez.en (z_var (i := 7) rfl dz)) an_nil)) flat_frs rfl (by rw [tab_len]; simp; omega)
          have e : rowL (w' + 1) (aug A b w' i) = .list ((tab w' fun j => frD (A i j)) ++ [frD (b i)]) := by
            unfold rowL
            rw [tab_succ]
            have e2 : (tab w' fun j => frD (aug A b w' i j)) = tab w' fun j => frD (A i j) := tab_congr fun j hj => by unfold aug; rw [if_pos hj]
            rw [e2]
            have e3 : aug A b w' i w' = b i := by unfold aug; rw [if_neg (Nat.lt_irrefl _)]
            rw [e3]
          rw [e]
          exact hn)
      rw [tab_len] at h
      exact h.ez
    refine r_call (K := K) e1 ⟨m, w', aug A b w', x, rfl, hwm, hm, hw, S, Z, rfl⟩ fun r hr v' H2 s2 d2 => ?_
    obtain ⟨G, hG, rfl⟩ := hr
    obtain ⟨ta, y1, y2, rfl, hT, h1, h2⟩ := dn_pair d2
    refine g2_any hT ?_
    dsimp only
    refine s_ret (K := K) (d := rowL w' x) ?_ fun v' H3 s3 d3 => q v' H3 ((s1.trans s2).trans s3) (Dn.anti (s1.trans s2) d3)
    have hs : Ap K (tCons (tCB (rLenX K) (tCons (tVar 4) tNil)) tNil) [some u, some v, some (.int w'), some y1, some y2, none, none, none] H2 [.int (w' : Int)] := by
      have h := p_lenL (K := K) (σ := [some u, some v, some (.int w'), some y1, some y2, none, none, none]) (p_var (i := 4) rfl h2.dp)
      rw [tab_len] at h
      exact ap_one h
    refine n_lcA (src_r1 hs (by omega)).g (by omega) fun i hi z H4 s4 dz => ?_
    cases dz
    rw [← hG i hi]
    exact (z_rowL (z_matL (i := i) (z_var (i := 3) rfl (L2.Dp.mono s4 h1.dp)) (z_var (i := 5) rfl (.int _)) (by omega)) (z_var (i := 2) rfl (.int _)) (by omega)).en
end
end Ck
end

section
set_option Elab.async false
set_option linter.all false
set_option maxRecDepth 100000
set_option maxHeartbeats 4000000
/-! tables. -/
namespace Ck
open PySem PySem.Spec PyProof.Rows L2
/-- a table of casks whose shares are over one number -/
structure Tb (n : Nat) (A : Mx) : Prop where
  tab : Tab n A
  n1 : 1 ≤ n
  n5 : n ≤ 5
  dn : ∃ D : Nat, 0 < D ∧ D < 2 ^ 3000 ∧ ∀ i j, i < n → j < n → (A i j).den ∣ D
abbrev tabD (n : Nat) (A : Mx) : PyData := matT n n A
theorem fb_of {D : Nat} {q : Rat} (h : q.den ∣ D) (h0 : 0 ≤ q) (h1 : q ≤ 1) : Fb D 1 q := ⟨h, num_le.mpr (by rw [ab_of_nonneg h0]; exact h1)⟩
theorem Tb.fb {n : Nat} {A : Mx} (t : Tb n A) : ∃ D : Nat, 0 < D ∧ D < 2 ^ 3000 ∧ ∀ i j, i < n → j < n → Fb D 1 (A i j) := by
  obtain ⟨D, h1, h2, h3⟩ := t.dn
  exact ⟨D, h1, h2, fun i j hi hj => fb_of (h3 i j hi hj) (t.tab.nn i j hi hj) (t.tab.le1 hi hj)⟩
theorem Tb.bd {n : Nat} {A : Mx} (t : Tb n A) {i j : Nat} (hi : i < n) (hj : j < n) : Bd 3000 (A i j) := by
  obtain ⟨D, h1, h2, h3⟩ := t.fb
  exact (h3 i j hi hj).bd h1 (Nat.le_refl _) (by rw [Nat.one_mul]; exact h2)
section
variable {P : Program} {w : World} {K : Fg} {mg : Str → Option Value} {base : Heap}
section
variable {σ : L2.St} {H : Hp} {te ta : TE} {ds : List PyData}
/-- tuple([..]) -/
theorem n_tuple (h : En K te σ H (.list ds)) : En K (tCB (rTupleOf K) (tCons te tNil)) σ H (.tuple ds) := fun H1 s Q q =>
  h H1 s _ fun v H2 s2 dv => by
    cases dv with
    | lst h0 hs ha =>
      refine ⟨_, _, rfl, .inl ⟨SqL.of hs, fun l nl => q _ _ (s2.trans (same_new nl)) (.tup (SqT.of upd_same) (DnAll.mono (same_new nl) (DnAll.anti' (fun a z => ?_) ha)))⟩⟩
      exact (upd_none z).2
/-- all([..]) -/
theorem z_all {n : Nat} {p : Nat → Bool} (h : Ez K te σ H (.list (tab n fun i => .bool (p i)))) : Ez K (tCB (rAll K) (tCons te tNil)) σ H (.bool ((rg n).all p)) := z_cb (a_one h) fun vs H1 s dv Q q => by
  obtain ⟨x, rfl, dx⟩ := one_of dv
  obtain ⟨a, xs, rfl, hs, hx⟩ := dx.isLst
  have e : (tab n fun i => PyData.bool (p i)) = ((rg n).map p).map PyData.bool := by unfold tab; rw [List.map_map]; rfl
  rw [e] at hx
  have e2 := hx.bl_eq
  subst e2
  refine ⟨a, _, rfl, hs, ?_⟩
  have e3 : ((rg n).map p).all id = (rg n).all p := by rw [List.all_map]; rfl
  rw [e3]
  exact q _ _ (Same.refl _) (.bl _)
theorem z_allT {n : Nat} {p : Nat → Bool} (h : Ez K te σ H (.list (tab n fun i => .bool (p i)))) (hp : ∀ i, i < n → p i = true) : Ez K (tCB (rAll K) (tCons te tNil)) σ H (.bool true) := by
  have e : (rg n).all p = true := List.all_eq_true.mpr fun i hi => hp i (List.mem_range.mp hi)
  rw [← e]; exact z_all h
end
abbrev s_kept_of : Stmt := topS 40
abbrev N_kept_of : List Str := ["table", "cask", "row"]
theorem sc_kept_of : FnScope N_kept_of ["table", "cask"] (defScope s_kept_of) := ⟨rfl, rfl, rfl, by decide +kernel, rfl, by decide +kernel, by decide +kernel⟩
theorem b_kept_of (T : Txt K mg) : Binds K (T.fd 24) ["table", "cask"] [] := (T.F 24 _ rfl).binds (ps := ["table", "cask"]) fun _ _ _ _ _ _ us hl => match us, hl with | [_, _], _ => rfl

theorem ok_kept_of (T : Txt K mg) : FnOk P w K mg base CX0 5 (T.fa 24) (T.fd 24) ["table", "cask"] (spD K fun ds r => ∃ (n : Nat) (A : Mx) (j : Nat), ds = [tabD n A, .int (j : Int)] ∧ Tb n A ∧ j < n ∧ r = frD (col n A j)) := by
  refine okD (T.F 24 _ rfl) sc_kept_of (fun ds r h => ?_) (fun cdv A0 outer s H vs Q E ds r hr hv hp q => ?_)
  · obtain ⟨_, _, _, rfl, _⟩ := h; rfl
  · obtain ⟨n, A, j, rfl, t, hj, rfl⟩ := hp
    obtain ⟨u, v, rfl, du, dv⟩ := two_of hv
    cases dv
    refine ⟨_, (pss_one (ps_ret (pe_call (ok_sum_of T) (hr.mono (by decide)) (by rfl) (T.g 11 _ rfl) (T.F 11 _ rfl).kp (b_sum_of T) .nil pass0 (pa_cons (pe_lc (own := [("row", 2)])  rfl sc_kept_of.nd (pi_tupK K (pv 0)) (blkOk_by (N := N_kept_of) (sc := defScope s_kept_of) (by decide +kernel)) (fun _ _ _ _ _ => (pg_name (i := 2) sc_kept_of.nd rfl (Or.inl rfl))) (fun _ _ _ _ _ => pts_nil) (fun _ _ _ _ _ => (pe_ix (ix_seqK K) (pv 2) (pv 1) (fun _ _ => rfl)))) pa_nil)))), ?_⟩
    have h5 := t.n5
    refine s_ret (K := K) (d := frD (col n A j)) (n_call (ds := [.list (tab n fun i => frD (A i j))]) (a_one (En.ez ?_)) ?_) q
    · have h := n_lcA (K := K) (σ := start N_kept_of [u, .int j]) (H := H) (vs := [2]) (j := 2) (te := tOp (rIx K) (tVar 2) (tVar 1)) (gd := fun i => frD (A i j)) (src_tup (p_var (i := 0) rfl du)).g (by rw [tab_len]; omega) (fun i hi x H1 s1 dx => by
        rw [tab_len] at hi
        rw [tab_getD hi] at dx
        exact (z_rowT (z_var (i := 2) rfl dx) (z_var (i := 1) rfl (.int _)) hj).en)
      rw [tab_len] at h
      exact h
    · obtain ⟨D, h1, h2, h3⟩ := t.fb
      exact ⟨n, fun i => A i j, D, 1, rfl, by omega, h1, lt_pw h2 (by decide), fun i hi => h3 i j hi hj, by omega, rfl⟩
abbrev s_is_table : Stmt := topS 39
abbrev N_is_table : List Str := ["value", "row", "cask", "one"]
theorem sc_is_table : FnScope N_is_table ["value"] (defScope s_is_table) := ⟨rfl, rfl, rfl, by decide +kernel, rfl, by decide +kernel, by decide +kernel⟩
theorem b_is_table (T : Txt K mg) : Binds K (T.fd 23) ["value"] [] := (T.F 23 _ rfl).binds (ps := ["value"]) fun _ _ _ _ _ _ us hl => match us, hl with | [_], _ => rfl

theorem ok_is_table (T : Txt K mg) : FnOk P w K mg base CX0 6 (T.fa 23) (T.fd 23) ["value"] (spD K fun ds r => ∃ (n : Nat) (A : Mx), ds = [tabD n A] ∧ Tb n A ∧ r = .bool true) := by
  refine okD (T.F 23 _ rfl) sc_is_table (fun ds r h => ?_) (fun cdv A0 outer s H vs Q E ds r hr hv hp q => ?_)
  · obtain ⟨_, _, rfl, _⟩ := h; rfl
  · obtain ⟨n, A, rfl, t, rfl⟩ := hp
    obtain ⟨u, rfl, du⟩ := one_of hv
    refine ⟨_, (pss_cons (ps_if (PW.pt (pw_or (pt_not (pt_val (pe_callB (call_isiQ K) (by rfl) (T.n "isinstance") (by decide +kernel) (pa_cons (pv 0) (pa_cons (pe_bltn (v := .ty "tuple") (by rfl) (T.n "tuple") (by decide +kernel) rfl) pa_nil))))) (pw_or1 (pt_not (pt_chain op_le op_le pe_int (pe_callB (call_lenK K) (by rfl) (T.n "len") PySem.boot_len (pa_cons (pv 0) pa_nil)) pe_int)))))
       (pss_one (ps_ret pe_bl))
       pss_nil)
      (pss_cons (ps_for PassesOwn.never rfl (pi_tupK K (pv 0)) (pg_name (i := 1) sc_is_table.nd rfl (Or.inl rfl))
       (pss_one (ps_if (PW.pt (pw_or (pt_not (pt_val (pe_callB (call_isiQ K) (by rfl) (T.n "isinstance") (by decide +kernel) (pa_cons (pv 1) (pa_cons (pe_bltn (v := .ty "tuple") (by rfl) (T.n "tuple") (by decide +kernel) rfl) pa_nil))))) (pw_or (pt_cmpR (op_neK K hr.units) (pe_callB (call_lenK K) (by rfl) (T.n "len") PySem.boot_len (pa_cons (pv 1) pa_nil)) (pe_callB (call_lenK K) (by rfl) (T.n "len") PySem.boot_len (pa_cons (pv 0) pa_nil)) (nomark _)) (pw_or1 (pt_not (pt_val (pe_callB (cr_allK K rfl) (by rfl) (T.n "all") (by decide +kernel) (pa_cons (pe_lc (own := [("one", 3)])  rfl sc_is_table.nd (pi_tupK K (pv 1)) (blkOk_by (N := N_is_table) (sc := defScope s_is_table) (by decide +kernel)) (fun _ _ _ _ _ => (pg_name (i := 3) sc_is_table.nd rfl (Or.inl rfl))) (fun _ _ _ _ _ => pts_nil) (fun _ _ _ _ _ => (pe_call (ok_is_amount T) (hr.mono (by decide)) (by rfl) (T.g 3 _ rfl) (T.F 3 _ rfl).kp (b_is_amount T) .nil pass0 (pa_cons (pv 3) pa_nil)))) pa_nil))))))))
        (pss_one (ps_ret pe_bl))
        pss_nil)))
      (pss_one (ps_ret (pe_callB (cr_allK K rfl) (by rfl) (T.n "all") (by decide +kernel) (pa_cons (pe_lc (own := [("cask", 2)])  rfl sc_is_table.nd (pi_range1 (by rfl) (T.n "range") (pa_cons (pe_callB (call_lenK K) (by rfl) (T.n "len") PySem.boot_len (pa_cons (pv 0) pa_nil)) pa_nil)) (blkOk_by (N := N_is_table) (sc := defScope s_is_table) (by decide +kernel)) (fun _ _ _ _ _ => (pg_name (i := 2) sc_is_table.nd rfl (Or.inl rfl))) (fun _ _ _ _ _ => pts_nil) (fun _ _ _ _ _ => (pe_cmpR op_le (pe_ix (ix_seqK K) (pe_call (ok_kept_of T) (hr.mono (by decide)) (by rfl) (T.g 24 _ rfl) (T.F 24 _ rfl).kp (b_kept_of T) .nil pass0 (pa_cons (pv 0) (pa_cons (pv 2) pa_nil))) pe_int (fun _ _ => rfl)) (pe_ix (ix_seqK K) (pe_call (ok_kept_of T) (hr.mono (by decide)) (by rfl) (T.g 24 _ rfl) (T.F 24 _ rfl).kp (b_kept_of T) .nil pass0 (pa_cons (pv 0) (pa_cons (pv 2) pa_nil))) pe_int (fun _ _ => rfl)) (nomark _)))) pa_nil)))))), ?_⟩
    have h5 := t.n5
    have h1 := t.n1
    have zl : ∀ {σ : L2.St} {H'}, σ[0]? = some (some u) → Same H H' → Ez K (tCB (rLenX K) (tCons (tVar 0) tNil)) σ H' (.int (n : Int)) := fun e s => by
      have h := z_lenT (K := K) (z_var e (L2.Dp.mono s du))
      rw [tab_len] at h; exact h
    refine s_pass ?_ fun H1 s1 => ?_
    · refine t_or (b := false) (c := false) (t_not (b := true) (t_val (z_isi (z_var (i := 0) rfl du)))) fun _ => t_not (b := true) (t_val (K := K) ?_)
      have h := z_chain (K := K) (p := fun i j => decide (i ≤ j)) (p' := fun i j => decide (i ≤ j)) (z_int (i := 1)) (zl (σ := start N_is_table [u]) rfl (Same.refl _)) (z_int (i := 8))
      rw [decide_eq_true (show (1 : Int) ≤ n by omega), decide_eq_true (show (n : Int) ≤ 8 by omega)] at h
      exact h
    refine s_forHS (K := K) (Hb := H) (fun i σ' H' => ∃ y, σ' = [some u, y, none, none] ∧ Same H H') ((src_tup (p_var (i := 0) rfl du)).h s1) ⟨none, rfl, s1⟩ (fun i σ' H' p => ?_) (fun i σ' H' hi p x dx => ?_) (fun σ' H' p => ?_)
    · obtain ⟨_, _, s'⟩ := p; exact s'
    · obtain ⟨y, rfl, s'⟩ := p
      rw [tab_len] at hi
      rw [tab_getD hi] at dx
      have dx' := L2.Dp.mono s' dx
      refine s_pass1 ?_ fun H2 s2 => ⟨_, rfl, s'.trans s2⟩
      refine t_or (b := false) (c := false) (t_not (b := true) (t_val (z_isi (z_var (i := 1) rfl dx')))) fun _ => t_or (b := false) (c := false) (t_val (K := K) ?_) fun _ => t_not (b := true) (t_val (K := K) ?_)
      · have hx := z_lenT (K := K) (z_var (σ := [some u, some x, none, none]) (i := 1) rfl dx')
        rw [tab_len] at hx
        have h := z_neI hx (zl (σ := [some u, some x, none, none]) rfl s')
        rw [decide_eq_true rfl] at h
        exact h
      · refine z_allT (n := n) (p := fun j => decide (0 ≤ (A i j).num)) (En.ez ?_) fun j hj => decide_eq_true (Rat.num_nonneg.mpr (t.tab.nn i j hi hj))
        have h := n_lcA (K := K) (σ := [some u, some x, none, none]) (H := H') (vs := [3]) (j := 3) (te := tCall (spD K fun ds r => ∃ q : Rat, ds = [frD q] ∧ r = .bool (decide (0 ≤ q.num))) [] E0 (tCons (tVar 3) tNil)) (gd := fun j => .bool (decide (0 ≤ (A i j).num))) (src_tup (p_var (i := 1) rfl dx')).g (by rw [tab_len]; omega) (fun j hj z H1 s1 dz => by
          rw [tab_len] at hj
          rw [tab_getD hj] at dz
          exact n_call (a_one (z_var (i := 3) rfl dz)) ⟨_, rfl, rfl⟩)
        rw [tab_len] at h
        exact h
    · obtain ⟨y, rfl, s'⟩ := p
      refine s_ret (K := K) (d := .bool true) (Ez.en ?_) fun v H2 s2 d2 => q v H2 (s'.trans s2) (Dn.anti s' d2)
      refine z_allT (n := n) (p := fun j => decide ((col n A j).num ≤ (col n A j).den)) (En.ez ?_) fun j hj => decide_eq_true ?_
      · have du' := L2.Dp.mono s' du
        have hl := p_lenT (K := K) (σ := [some u, y, none, none]) (p_var (i := 0) rfl du')
        rw [tab_len] at hl
        refine n_lcA (src_r1 (ap_one hl) (by omega)).g (by omega) fun j hj z H1 s1 dz => ?_
        cases dz
        have zk : Ez K (tCall (spD K fun ds r => ∃ (n : Nat) (A : Mx) (j : Nat), ds = [tabD n A, .int (j : Int)] ∧ Tb n A ∧ j < n ∧ r = frD (col n A j)) [] E0 (tCons (tVar 0) (tCons (tVar 2) tNil))) (([some u, y, none, none] : L2.St).set 2 (some (.int (j : Int)))) H1 (frD (col n A j)) := z_call (a_cons (z_var (i := 0) rfl (L2.Dp.mono s1 du')) (a_one (z_var (i := 2) rfl (.int _)))) ⟨n, A, j, rfl, t, hj, rfl⟩
        exact (z_cmp (p := fun i j => decide (i ≤ j)) (z_num zk) (z_den zk)).en
      · have h := (Rat.le_iff _ 1).mp (t.tab.le j hj)
        simpa using h
abbrev s_need_table : Stmt := topS 41
abbrev N_need_table : List Str := ["table"]
theorem sc_need_table : FnScope N_need_table ["table"] (defScope s_need_table) := ⟨rfl, rfl, rfl, by decide +kernel, rfl, by decide +kernel, by decide +kernel⟩
theorem b_need_table (T : Txt K mg) : Binds K (T.fd 25) ["table"] [] := (T.F 25 _ rfl).binds (ps := ["table"]) fun _ _ _ _ _ _ us hl => match us, hl with | [_], _ => rfl

theorem ok_need_table (T : Txt K mg) : FnOk P w K mg base CX0 7 (T.fa 25) (T.fd 25) ["table"] (spD K fun ds r => ∃ (n : Nat) (A : Mx), ds = [tabD n A] ∧ Tb n A ∧ r = .none) := by
  refine okD (T.F 25 _ rfl) sc_need_table (fun ds r h => ?_) (fun cdv A0 outer s H vs Q E ds r hr hv hp q => ?_)
  · obtain ⟨_, _, rfl, _⟩ := h; rfl
  · obtain ⟨n, A, rfl, t, rfl⟩ := hp
    obtain ⟨u, rfl, du⟩ := one_of hv
    refine ⟨_, (pss_one (ps_if (pt_not (pt_val (pe_call (ok_is_table T) (hr.mono (by decide)) (by rfl) (T.g 23 _ rfl) (T.F 23 _ rfl).kp (b_is_table T) .nil pass0 (pa_cons (pv 0) pa_nil))))
       (pss_one ps_never)
       pss_nil)), ?_⟩
    exact s_pass1 (t_not (b := true) (t_val (z_call (a_one (z_var (i := 0) rfl du)) ⟨n, A, rfl, t, rfl⟩))) fun H1 s1 => q _ _ s1 .non
abbrev s_still : Stmt := topS 42
abbrev N_still : List Str := ["casks", "i", "j"]
theorem sc_still : FnScope N_still ["casks"] (defScope s_still) := ⟨rfl, rfl, rfl, by decide +kernel, rfl, by decide +kernel, by decide +kernel⟩
theorem b_still (T : Txt K mg) : Binds K (T.fd 26) ["casks"] [] := (T.F 26 _ rfl).binds (ps := ["casks"]) fun _ _ _ _ _ _ us hl => match us, hl with | [_], _ => rfl

theorem ok_still (T : Txt K mg) : FnOk P w K mg base CX0 1 (T.fa 26) (T.fd 26) ["casks"] (spD K fun ds r => ∃ n : Nat, ds = [.int (n : Int)] ∧ 1 ≤ n ∧ n ≤ 5 ∧ r = tabD n idm) := by
  refine okD (T.F 26 _ rfl) sc_still (fun ds r h => ?_) (fun cdv A0 outer s H vs Q E ds r hr hv hp q => ?_)
  · obtain ⟨_, rfl, _⟩ := h; rfl
  · obtain ⟨n, rfl, h1, h5, rfl⟩ := hp
    obtain ⟨u, rfl, du⟩ := one_of hv
    cases du
    refine ⟨_, (pss_cons (ps_if (pt_not (pt_chain op_le op_le pe_int (pv 0) pe_int))
       (pss_one ps_never)
       pss_nil)
      (pss_one (ps_ret (pe_callTy (call_tupleK K) (by rfl) (T.n "tuple") (by decide +kernel) (pa_cons (pe_lc (own := [("i", 1)])  rfl sc_still.nd (pi_range1 (by rfl) (T.n "range") (pa_cons (pv 0) pa_nil)) (blkOk_by (N := N_still) (sc := defScope s_still) (by decide +kernel)) (fun _ _ _ _ _ => (pg_name (i := 1) sc_still.nd rfl (Or.inr rfl))) (fun _ _ _ _ _ => pts_nil) (fun _ _ _ _ _ => (pe_callTy (call_tupleK K) (by rfl) (T.n "tuple") (by decide +kernel) (pa_cons (pe_lc (own := [("j", 2)])  rfl sc_still.nd (pi_range1 (by rfl) (T.n "range") (pa_cons (pv 0) pa_nil)) (blkOk_by (N := N_still) (sc := (relS ({ kind := PySem.ScopeKind.function, names := [ (PySem.Str.ofString ".0", PySem.NameKind.local), (PySem.Str.ofString "i", PySem.NameKind.cell), (PySem.Str.ofString "tuple", PySem.NameKind.globalImplicit), (PySem.Str.ofString "range", PySem.NameKind.globalImplicit), (PySem.Str.ofString "casks", PySem.NameKind.free)], isGenerator := false, isCoroutine := false, more := [] : PySem.Scope }) (defScope s_still))) (by decide +kernel)) (fun _ _ _ _ _ => (pg_name (i := 2) sc_still.nd rfl (Or.inl rfl))) (fun _ _ _ _ _ => pts_nil) (fun _ _ _ _ _ => (pe_tup (pa_cons (pe_callTy call_int1 (by rfl) (T.n "int") (by decide +kernel) (pa_cons (pe_cmpR (op_eqK K hr.units) (pv 1) (pv 2) (nomark _)) pa_nil)) (pa_cons pe_int pa_nil))))) pa_nil)))) pa_nil))))), ?_⟩
    refine s_pass ?_ fun H1 s1 => ?_
    · refine t_not (b := true) (t_val (K := K) ?_)
      have h := z_chain (K := K) (p := fun i j => decide (i ≤ j)) (p' := fun i j => decide (i ≤ j)) (z_int (i := 1)) (z_var (σ := start N_still [.int n]) (H := H) (i := 0) rfl (.int (n : Int))) (z_int (i := 8))
      rw [decide_eq_true (show (1 : Int) ≤ n by omega), decide_eq_true (show (n : Int) ≤ 8 by omega)] at h
      exact h
    refine s_ret (K := K) (d := tabD n idm) (n_tuple ?_) fun v H2 s2 d2 => q v H2 (s1.trans s2) (Dn.anti s1 d2)
    refine n_lcA (src_r1 (ap_one (p_var (i := 0) rfl (.int _))) (by omega)).g (by omega) fun i hi z H2 s2 dz => ?_
    cases dz
    refine n_tuple ?_
    refine n_lcA (src_r1 (ap_one (p_var (i := 0) rfl (.int _))) (by omega)).g (by omega) fun j hj z H3 s3 dz => ?_
    cases dz
    have e : (idm i j) = if decide ((i : Int) = (j : Int)) = true then 1 else 0 := by
      unfold idm
      by_cases h : i = j
      · rw [if_pos h, decide_eq_true (show (i : Int) = (j : Int) by omega), if_pos rfl]
      · rw [if_neg h, decide_eq_false (show ¬ (i : Int) = (j : Int) by omega), if_neg Bool.false_ne_true]
    have e2 : frD (idm i j) = .tuple [.int (if decide ((i : Int) = (j : Int)) = true then 1 else 0), .int 1] := by
      rw [e]; split <;> rfl
    rw [e2]
    exact n_tup (an_cons (z_intB (z_eqI (z_var (i := 1) rfl (.int _)) (z_var (i := 2) rfl (.int _)))).en (an_cons z_int.en an_nil))
abbrev s_column_of : Stmt := topS 43
abbrev N_column_of : List Str := ["table", "cask", "row"]
theorem sc_column_of : FnScope N_column_of ["table", "cask"] (defScope s_column_of) := ⟨rfl, rfl, rfl, by decide +kernel, rfl, by decide +kernel, by decide +kernel⟩
theorem b_column_of (T : Txt K mg) : Binds K (T.fd 27) ["table", "cask"] [] := (T.F 27 _ rfl).binds (ps := ["table", "cask"]) fun _ _ _ _ _ _ us hl => match us, hl with | [_, _], _ => rfl

theorem ok_column_of (T : Txt K mg) : FnOk P w K mg base CX0 1 (T.fa 27) (T.fd 27) ["table", "cask"] (spD K fun ds r => ∃ (n : Nat) (A : Mx) (j : Nat), ds = [tabD n A, .int (j : Int)] ∧ n ≤ 5 ∧ j < n ∧ r = rowL n fun i => A i j) := by
  refine okD (T.F 27 _ rfl) sc_column_of (fun ds r h => ?_) (fun cdv A0 outer s H vs Q E ds r hr hv hp q => ?_)
  · obtain ⟨_, _, _, rfl, _⟩ := h; rfl
  · obtain ⟨n, A, j, rfl, h5, hj, rfl⟩ := hp
    obtain ⟨u, v, rfl, du, dv⟩ := two_of hv
    cases dv
    refine ⟨_, (pss_one (ps_ret (pe_lc (own := [("row", 2)])  rfl sc_column_of.nd (pi_tupK K (pv 0)) (blkOk_by (N := N_column_of) (sc := defScope s_column_of) (by decide +kernel)) (fun _ _ _ _ _ => (pg_name (i := 2) sc_column_of.nd rfl (Or.inl rfl))) (fun _ _ _ _ _ => pts_nil) (fun _ _ _ _ _ => (pe_ix (ix_seqK K) (pv 2) (pv 1) (fun _ _ => rfl)))))), ?_⟩
    refine s_ret (K := K) (d := rowL n fun i => A i j) ?_ q
    have h := n_lcA (K := K) (σ := start N_column_of [u, .int j]) (H := H) (vs := [2]) (j := 2) (te := tOp (rIx K) (tVar 2) (tVar 1)) (gd := fun i => frD (A i j)) (src_tup (p_var (i := 0) rfl du)).g (by rw [tab_len]; omega) (fun i hi x H1 s1 dx => by
        rw [tab_len] at hi
        rw [tab_getD hi] at dx
        exact (z_rowT (z_var (i := 2) rfl dx) (z_var (i := 1) rfl (.int _)) hj).en)
    rw [tab_len] at h
    exact h
abbrev s_behind : Stmt := topS 44
abbrev N_behind : List Str := ["one", "other", "columns", "cask", "row", "column"]
theorem sc_behind : FnScope N_behind ["one", "other"] (defScope s_behind) := ⟨rfl, rfl, rfl, by decide +kernel, rfl, by decide +kernel, by decide +kernel⟩
theorem b_behind (T : Txt K mg) : Binds K (T.fd 28) ["one", "other"] [] := (T.F 28 _ rfl).binds (ps := ["one", "other"]) fun _ _ _ _ _ _ us hl => match us, hl with | [_, _], _ => rfl

def PBeh : List PyData → PyData → Prop := fun ds r => ∃ (n : Nat) (A B : Mx) (a b : Nat), ds = [tabD n A, tabD n B] ∧ Tb n A ∧ Tb n B ∧ (∀ i j, i < n → j < n → Bd a (A i j)) ∧ (∀ i j, i < n → j < n → Bd b (B i j)) ∧ n * (b + a + 1) + 1 ≤ 8990 ∧ r = tabD n (mul n B A)
theorem ok_behind (T : Txt K mg) : FnOk P w K mg base CX0 8 (T.fa 28) (T.fd 28) ["one", "other"] (spD K PBeh) := by
  refine okD (T.F 28 _ rfl) sc_behind (fun ds r h => ?_) (fun cdv A0 outer s H vs Q E ds r hr hv hp q => ?_)
  · obtain ⟨_, _, _, _, _, rfl, _⟩ := h; rfl
  · obtain ⟨n, A, B, a, b, rfl, ta, tb, ba, bb, hab, rfl⟩ := hp
    obtain ⟨u, v, rfl, du, dv⟩ := two_of hv
    refine ⟨_, (pss_cons (ps_expr (pe_call (ok_need_table T) (hr.mono (by decide)) (by rfl) (T.g 25 _ rfl) (T.F 25 _ rfl).kp (b_need_table T) .nil pass0 (pa_cons (pv 0) pa_nil)))
      (pss_cons (ps_expr (pe_call (ok_need_table T) (hr.mono (by decide)) (by rfl) (T.g 25 _ rfl) (T.F 25 _ rfl).kp (b_need_table T) .nil pass0 (pa_cons (pv 1) pa_nil)))
      (pss_cons (ps_if (pt_cmpR (op_neK K hr.units) (pe_callB (call_lenK K) (by rfl) (T.n "len") PySem.boot_len (pa_cons (pv 0) pa_nil)) (pe_callB (call_lenK K) (by rfl) (T.n "len") PySem.boot_len (pa_cons (pv 1) pa_nil)) (nomark _))
       (pss_one ps_never)
       pss_nil)
      (pss_cons (ps_set (i := 2) sc_behind.nd rfl (Or.inr rfl) (pe_lc (own := [("cask", 3)])  rfl sc_behind.nd (pi_range1 (by rfl) (T.n "range") (pa_cons (pe_callB (call_lenK K) (by rfl) (T.n "len") PySem.boot_len (pa_cons (pv 0) pa_nil)) pa_nil)) (blkOk_by (N := N_behind) (sc := defScope s_behind) (by decide +kernel)) (fun _ _ _ _ _ => (pg_name (i := 3) sc_behind.nd rfl (Or.inl rfl))) (fun _ _ _ _ _ => pts_nil) (fun _ _ _ _ _ => (pe_call (ok_column_of T) (hr.mono (by decide)) (by rfl) (T.g 27 _ rfl) (T.F 27 _ rfl).kp (b_column_of T) .nil pass0 (pa_cons (pv 0) (pa_cons (pv 3) pa_nil))))))
      (pss_one (ps_ret (pe_callTy (call_tupleK K) (by rfl) (T.n "tuple") (by decide +kernel) (pa_cons (pe_lc (own := [("row", 4)])  rfl sc_behind.nd (pi_tupK K (pv 1)) (blkOk_by (N := N_behind) (sc := defScope s_behind) (by decide +kernel)) (fun _ _ _ _ _ => (pg_name (i := 4) sc_behind.nd rfl (Or.inr rfl))) (fun _ _ _ _ _ => pts_nil) (fun _ _ _ _ _ => (pe_callTy (call_tupleK K) (by rfl) (T.n "tuple") (by decide +kernel) (pa_cons (pe_lc (own := [("column", 5)])  rfl sc_behind.nd (pi_listK K (pv 2)) (blkOk_by (N := N_behind) (sc := (relS ({ kind := PySem.ScopeKind.function, names := [ (PySem.Str.ofString ".0", PySem.NameKind.local), (PySem.Str.ofString "row", PySem.NameKind.cell), (PySem.Str.ofString "tuple", PySem.NameKind.globalImplicit), (PySem.Str.ofString "columns", PySem.NameKind.free)], isGenerator := false, isCoroutine := false, more := [] : PySem.Scope }) (defScope s_behind))) (by decide +kernel)) (fun _ _ _ _ _ => (pg_name (i := 5) sc_behind.nd rfl (Or.inl rfl))) (fun _ _ _ _ _ => pts_nil) (fun _ _ _ _ _ => (pe_call (ok_dot T) (hr.mono (by decide)) (by rfl) (T.g 12 _ rfl) (T.F 12 _ rfl).kp (b_dot T) .nil pass0 (pa_cons (pv 4) (pa_cons (pv 5) pa_nil))))) pa_nil)))) pa_nil)))))))), ?_⟩
    have h5 := ta.n5
    refine s_expr (z_call (a_one (z_var (i := 0) rfl du)) ⟨n, A, rfl, ta, rfl⟩) fun H1 s1 => ?_
    refine s_expr (z_call (a_one (z_var (i := 1) rfl (L2.Dp.mono s1 dv))) ⟨n, B, rfl, tb, rfl⟩) fun H2 s2 => ?_
    have s12 := s1.trans s2
    have du2 := L2.Dp.mono s12 du
    have dv2 := L2.Dp.mono s12 dv
    refine s_pass ?_ fun H3 s3 => ?_
    · have h1 := z_lenT (K := K) (z_var (σ := start N_behind [u, v]) (i := 0) rfl du2)
      have h2 := z_lenT (K := K) (z_var (σ := start N_behind [u, v]) (i := 1) rfl dv2)
      rw [tab_len] at h1 h2
      have h := z_neI h1 h2
      rw [decide_eq_true rfl] at h
      exact t_val h
    have du3 := L2.Dp.mono s3 du2
    have dv3 := L2.Dp.mono s3 dv2
    refine s_set (K := K) (d := .list (tab n fun j => rowL n fun i => A i j)) (En.ez ?_) fun x2 H4 s4 d4 => ?_
    · have hl := p_lenT (K := K) (σ := start N_behind [u, v]) (p_var (i := 0) rfl du3)
      rw [tab_len] at hl
      refine n_lcA (src_r1 (ap_one hl) (by omega)).g (by omega) fun j hj z H4 s4 dz => ?_
      cases dz
      exact n_call (a_cons (z_var (i := 0) rfl (L2.Dp.mono s4 du3)) (a_one (z_var (i := 3) rfl (.int _)))) ⟨n, A, j, rfl, h5, hj, rfl⟩
    have s1234 := (s12.trans s3).trans s4
    refine s_ret (K := K) (d := tabD n (mul n B A)) (n_tuple ?_) fun v H5 s5 d5 => q v H5 (s1234.trans s5) (Dn.anti s1234 d5)
    have h := n_lcA (K := K) (σ := [some u, some v, some x2, none, none, none]) (H := H4) (vs := [4]) (j := 4) (te := tCB (rTupleOf K) (tCons (tLc (iList K (tVar 2)) (gName 5) tYes (tCall (spD K PDot) [] E0 (tCons (tVar 4) (tCons (tVar 5) tNil))) [5]) tNil)) (gd := fun i => rowT n (mul n B A i)) (src_tup (p_var (i := 1) rfl (L2.Dp.mono s4 dv3))).g (by rw [tab_len]; omega) (fun i hi y H5 s5 dy => by
      rw [tab_len] at hi
      rw [tab_getD hi] at dy
      refine n_tuple ?_
      have h := n_lcA (K := K) (σ := [some u, some v, some x2, none, some y, none]) (H := H5) (vs := [5]) (j := 5) (te := tCall (spD K PDot) [] E0 (tCons (tVar 4) (tCons (tVar 5) tNil))) (gd := fun j => frD (mul n B A i j)) (src_list (p_var (i := 2) rfl (L2.Dp.mono s5 d4))).g (by rw [tab_len]; omega) (fun j hj z H6 s6 dz => by
        rw [tab_len] at hj
        rw [tab_getD hj] at dz
        exact n_call (a_cons (z_var (i := 4) rfl (L2.Dp.mono s6 dy)) (a_one (z_var (i := 5) rfl dz))) ⟨n, B i, fun k => A k j, b, a, rfl, by omega, fun k hk => bb i k hi hk, fun k hk => ba k j hk hj, hab, rfl⟩)
      rw [tab_len] at h
      exact h)
    rw [tab_len] at h
    exact h
end
end Ck
end

section
set_option Elab.async false
set_option linter.all false
set_option maxRecDepth 100000
set_option maxHeartbeats 4000000
/-! whole numbers over one number: as_integers, as_table, integer_product, power. -/
namespace Ck
open PySem PySem.Spec PyProof.Rows L2
def intsL (w : Nat) (z : Nat → Int) : PyData := .list (tab w fun j => .int (z j))
def intsM (m w : Nat) (Z : Nat → Nat → Int) : PyData := .list (tab m fun i => intsL w (Z i))
theorem intsL_congr {n : Nat} {f g : Nat → Int} (h : ∀ j, j < n → f j = g j) : intsL n f = intsL n g := by
  unfold intsL; rw [tab_congr fun i hi => by rw [h i hi]]
theorem intsM_congr {m n : Nat} {F G : Nat → Nat → Int} (h : ∀ i j, i < m → j < n → F i j = G i j) : intsM m n F = intsM m n G := by
  unfold intsM; rw [tab_congr fun i hi => intsL_congr fun j hj => h i j hi hj]
def isum (n : Nat) (f : Nat → Int) : Int := ((rg n).map f).sum
theorem isum_cast {f : Nat → Int} : ∀ l : List Nat, (((l.map f).sum : Int) : Rat) = sm l fun k => ((f k : Int) : Rat)
  | [] => by show ((0 : Int) : Rat) = 0; exact Rat.intCast_zero
  | a :: l => by rw [List.map_cons, List.sum_cons, Rat.intCast_add, isum_cast l, sm_cons]
/-- Z is A, over L -/
def Sc (m w : Nat) (A : Mx) (L : Nat) (Z : Nat → Nat → Int) : Prop := ∀ i j, i < m → j < w → A i j * ((L : Int) : Rat) = ((Z i j : Int) : Rat)
theorem Sc.mul {n : Nat} {A B : Mx} {L M : Nat} {X Y : Nat → Nat → Int} (h : Sc n n A L X) (g : Sc n n B M Y) : Sc n n (mul n A B) (L * M) fun i j => isum n fun k => X i k * Y k j := fun i j hi hj => by
  unfold isum
  rw [isum_cast]
  show (sm (rg n) fun k => A i k * B k j) * _ = _
  rw [← sm_mulr]
  refine sm_congr fun k hk => ?_
  have hk := List.mem_range.mp hk
  have e1 := h i k hi hk
  have e2 := g k j hk hj
  rw [Rat.intCast_mul, ← e1, ← e2, Int.natCast_mul, Rat.intCast_mul]
  grind
theorem Sc.congr {m w : Nat} {A B : Mx} {L : Nat} {Z : Nat → Nat → Int} (h : Sc m w A L Z) (e : ∀ i j, i < m → j < w → A i j = B i j) : Sc m w B L Z := fun i j hi hj => by
  rw [← e i j hi hj]; exact h i j hi hj
theorem Sc.bd {n L k : Nat} {A : Mx} {Z : Nat → Nat → Int} (h : Sc n n A L Z) (t : Tab n A) (hL : L < 2 ^ k) {i j : Nat} (hi : i < n) (hj : j < n) : (Z i j).natAbs < 2 ^ k := by
  have e := h i j hi hj
  have h0 := t.nn i j hi hj
  have h1 := t.le1 hi hj
  have hL0 : (0 : Rat) ≤ ((L : Int) : Rat) := Rat.intCast_nonneg.mpr (by omega)
  have a0 : (0 : Rat) ≤ ((Z i j : Int) : Rat) := by rw [← e]; exact Rat.mul_nonneg h0 hL0
  have a1 : ((Z i j : Int) : Rat) ≤ ((L : Int) : Rat) := by
    rw [← e]
    have := Rat.mul_le_mul_of_nonneg_right h1 hL0
    rw [Rat.one_mul] at this; exact this
  have b0 := Rat.intCast_nonneg.mp a0
  have b1 := Rat.intCast_le_intCast.mp a1
  omega
section
variable {P : Program} {w : World} {K : Fg} {mg : Str → Option Value} {base : Heap}
section
variable {σ : L2.St} {H Hb : Hp} {ta tb te : TE} {D : Ends} {rest tbo : TS} {d : PyData} {ds : List PyData} {c : TT}
theorem src_seq (h : Ep K te σ Hb d) (hd : d = .list ds ∨ d = .tuple ds) : Src1 K (iSeq K te) σ Hb ds.length fun i => ds.getD i .none := by
  rcases hd with rfl | rfl
  · exact src_seqL h
  · exact src_seqT h
theorem z_lcm {i j : Int} (ha : Ez K ta σ H (.int i)) (hb : Ez K tb σ H (.int j)) (h1 : i.natAbs < 2 ^ 13000) (h2 : j.natAbs < 2 ^ 13000) : Ez K (tCB rLcmX (tCons ta (tCons tb tNil))) σ H (.int ((Nat.lcm i.natAbs j.natAbs : Nat) : Int)) := z_cb (a_cons ha (a_one hb)) fun vs H1 s dv Q q => by
  obtain ⟨x, y, rfl, dx, dy⟩ := two_of dv
  cases dx; cases dy
  exact ⟨i, j, rfl, h1, h2, q _ _ (Same.refl _) (.int _)⟩
theorem z_sum {n : Nat} {f : Nat → Int} (h : Ez K te σ H (.list (tab n fun i => .int (f i)))) : Ez K (tCB (rSum K) (tCons te tNil)) σ H (.int (isum n f)) := z_cb (a_one h) fun vs H1 s dv Q q => by
  obtain ⟨x, rfl, dx⟩ := one_of dv
  obtain ⟨a, xs, rfl, hs, hx⟩ := dx.isLst
  rw [tab_ints] at hx
  have e2 := hx.int_eq
  subst e2
  exact ⟨a, _, rfl, hs, q _ _ (Same.refl _) (.int _)⟩
/-- while -/
theorem s_while (W : Nat → L2.St → Hp → Prop) {m0 : Nat} (h0 : W m0 σ H) (turn : ∀ m σ H, W m σ H → ∃ b, Tz c σ H b ∧ (b = true → ∀ H', Same H H' → tbo { nx := fun σ' H' => ∃ m', m' < m ∧ W m' σ' H', rt := D.rt, ct := fun σ' H' => ∃ m', m' < m ∧ W m' σ' H', bk := rest D } σ H') ∧ (b = false → ∀ H', Same H H' → rest D σ H')) : tSeq (tWhile c tbo) rest D σ H := by
  refine ⟨W, ⟨m0, h0⟩, fun m σ H w => ?_⟩
  obtain ⟨b, hb, h1, h2⟩ := turn m σ H w
  refine hb H (Same.refl _) _ fun H2 s2 => ?_
  cases b with
  | true => rw [if_pos rfl]; exact ⟨_, fun _ _ z => z, h1 rfl H2 s2⟩
  | false => rw [if_neg Bool.false_ne_true]; exact h2 rfl H2 s2
theorem fdiv_nat {a b : Nat} : ((a : Int).fdiv (b : Int)) = ((a / b : Nat) : Int) := by
  rw [Int.fdiv_eq_ediv_of_nonneg _ (by omega)]; omega
end
abbrev s_as_integers : Stmt := topS 45
abbrev N_as_integers : List Str := ["rows", "below", "row", "one"]
theorem sc_as_integers : FnScope N_as_integers ["rows"] (defScope s_as_integers) := ⟨rfl, rfl, rfl, by decide +kernel, rfl, by decide +kernel, by decide +kernel⟩
theorem b_as_integers (T : Txt K mg) : Binds K (T.fd 29) ["rows"] [] := (T.F 29 _ rfl).binds (ps := ["rows"]) fun _ _ _ _ _ _ us hl => match us, hl with | [_], _ => rfl

def PAsI : List PyData → (PyData → Prop) → Prop := fun ds R => ∃ (d : PyData) (row : Nat → PyData) (m w : Nat) (F : Mx) (D k : Nat), ds = [d] ∧ (d = .list (tab m row) ∨ d = .tuple (tab m row)) ∧ (∀ i, i < m → row i = .list (tab w fun j => frD (F i j)) ∨ row i = .tuple (tab w fun j => frD (F i j))) ∧
  m ≤ 8 ∧ w ≤ 8 ∧ 0 < D ∧ D < 2 ^ 9000 ∧ k ≤ 9000 ∧ (∀ i j, i < m → j < w → (F i j).den ∣ D ∧ Bd k (F i j)) ∧
  R = fun r => ∃ (Z : Nat → Nat → Int) (L : Nat), 0 < L ∧ L ∣ D ∧ Sc m w F L Z ∧ r = .tuple [intsM m w Z, .int (L : Int)]
theorem ok_as_integers (T : Txt K mg) : FnOk P w K mg base CX0 1 (T.fa 29) (T.fd 29) ["rows"] (spR K PAsI) := by
  refine okR (T.F 29 _ rfl) sc_as_integers (fun ds r h => ?_) (fun cdv A outer s H vs Q E ds R hr hv hp q => ?_)
  · obtain ⟨_, _, _, _, _, _, _, rfl, _⟩ := h; rfl
  · obtain ⟨d, row, m, w', F, D, k, rfl, hd, hrow, hm, hw, hD, hD9, hk, hF, rfl⟩ := hp
    obtain ⟨u, rfl, du⟩ := one_of hv
    refine ⟨_, (pss_cons (ps_set (i := 1) sc_as_integers.nd rfl (Or.inr rfl) pe_int)
      (pss_cons (ps_for PassesOwn.never rfl (pi_seqK K (pv 0)) (pg_name (i := 2) sc_as_integers.nd rfl (Or.inl rfl))
       (pss_one (ps_for PassesOwn.never rfl (pi_seqK K (pv 2)) (pg_name (i := 3) sc_as_integers.nd rfl (Or.inl rfl))
        (pss_one (ps_set (i := 1) sc_as_integers.nd rfl (Or.inr rfl) (pe_callBfun cr_lcmX (by rfl) T.lcm (pa_cons (pv 1) (pa_cons (pe_ix (ix_seqK K) (pv 3) pe_int (fun _ _ => rfl)) pa_nil))))))))
      (pss_one (ps_ret (pe_tup (pa_cons (pe_lc (own := [("row", 2)])  rfl sc_as_integers.nd (pi_seqK K (pv 0)) (blkOk_by (N := N_as_integers) (sc := defScope s_as_integers) (by decide +kernel)) (fun _ _ _ _ _ => (pg_name (i := 2) sc_as_integers.nd rfl (Or.inl rfl))) (fun _ _ _ _ _ => pts_nil) (fun _ _ _ _ _ => (pe_lc (own := [("one", 3)])  rfl sc_as_integers.nd (pi_seqK K (pv 2)) (blkOk_by (N := N_as_integers) (sc := (relS ({ kind := PySem.ScopeKind.function, names := [ (PySem.Str.ofString ".0", PySem.NameKind.local), (PySem.Str.ofString "row", PySem.NameKind.local), (PySem.Str.ofString "below", PySem.NameKind.free)], isGenerator := false, isCoroutine := false, more := [] : PySem.Scope }) (defScope s_as_integers))) (by decide +kernel)) (fun _ _ _ _ _ => (pg_name (i := 3) sc_as_integers.nd rfl (Or.inl rfl))) (fun _ _ _ _ _ => pts_nil) (fun _ _ _ _ _ => (pe_op op_mulX (pe_ix (ix_seqK K) (pv 3) pe_int (fun _ _ => rfl)) (pe_op op_fdivX (pv 1) (pe_ix (ix_seqK K) (pv 3) pe_int (fun _ _ => rfl)))))))) (pa_cons (pv 1) pa_nil))))))), ?_⟩
    have hlt : ∀ {L : Nat}, L ∣ D → ((L : Nat) : Int).natAbs < 2 ^ 9000 := fun h => by
      rw [Int.natAbs_natCast]; exact Nat.lt_of_le_of_lt (Nat.le_of_dvd hD h) hD9
    refine s_set (K := K) z_int fun x1 H1 s1 d1 => ?_
    cases d1
    refine s_forHS (K := K) (Hb := H) (fun i σ' H' => ∃ (L : Nat) (y2 y3 : Option V), σ' = [some u, some (.int (L : Int)), y2, y3] ∧ Same H H' ∧ 0 < L ∧ L ∣ D ∧ ∀ i' j, i' < i → j < w' → (F i' j).den ∣ L)
      ((src_seq (p_var (i := 0) rfl du) hd).h s1) ⟨1, none, none, rfl, s1, by decide, Nat.one_dvd _, fun i' j h => absurd h (Nat.not_lt_zero _)⟩ (fun i σ' H' p => ?_) (fun i σ' H' hi p x dx => ?_) (fun σ' H' p => ?_)
    · obtain ⟨_, _, _, _, s', _⟩ := p; exact s'
    · obtain ⟨L, y2, y3, rfl, s', hL, hLD, hden⟩ := p
      rw [tab_len] at hi
      rw [tab_getD hi] at dx
      refine s_forH (K := K) (Hb := H) (fun j σ' H' => ∃ (L : Nat) (y3 : Option V), σ' = [some u, some (.int (L : Int)), some x, y3] ∧ Same H H' ∧ 0 < L ∧ L ∣ D ∧ (∀ i' j, i' < i → j < w' → (F i' j).den ∣ L) ∧ ∀ j', j' < j → (F i j').den ∣ L)
        ((src_seq (p_var (i := 2) rfl dx) (hrow i hi)).h s') ⟨L, y3, rfl, s', hL, hLD, hden, fun j h => absurd h (Nat.not_lt_zero _)⟩ (fun j σ' H' p => ?_) (fun j σ' H' hj p x dz => ?_) (fun σ' H' p => ?_)
      · obtain ⟨_, _, _, s', _⟩ := p; exact s'
      · obtain ⟨L, y3, rfl, s', hL, hLD, hden, hd2⟩ := p
        rw [tab_len] at hj
        rw [tab_getD hj] at dz
        have hdD := (hF i j hi hj).1
        have h1 := hlt hLD
        have h2 := hlt hdD
        refine s_set1 (K := K) (z_lcm (z_var (i := 1) rfl (.int _)) (z_den (z_var (i := 3) rfl (L2.Dp.mono s' dz))) (lt_pw h1 (by decide)) (lt_pw h2 (by decide))) fun v H4 s4 d4 => ?_
        cases d4
        rw [Int.natAbs_natCast, Int.natAbs_natCast]
        refine ⟨_, _, rfl, s'.trans s4, Nat.lcm_pos hL (F i j).den_pos, Nat.lcm_dvd hLD hdD, fun i' j' h1 h2 => Nat.dvd_trans (hden i' j' h1 h2) (Nat.dvd_lcm_left _ _), fun j' h1 => ?_⟩
        by_cases e : j' = j
        · subst e; exact Nat.dvd_lcm_right _ _
        · exact Nat.dvd_trans (hd2 j' (by omega)) (Nat.dvd_lcm_left _ _)
      · obtain ⟨L, y3, rfl, s', hL, hLD, hden, hd2⟩ := p
        rw [tab_len] at hd2
        refine ⟨L, _, _, rfl, s', hL, hLD, fun i' j' h1 h2 => ?_⟩
        by_cases e : i' = i
        · subst e; exact hd2 j' h2
        · exact hden i' j' (by omega) h2
    · obtain ⟨L, y2, y3, rfl, s', hL, hLD, hden⟩ := p
      rw [tab_len] at hden
      have hLlt := hlt hLD
      refine s_ret (K := K) (d := .tuple [intsM m w' fun i j => (F i j).num * (((L / (F i j).den : Nat)) : Int), .int (L : Int)]) (n_tup (an_cons ?_ (an_cons (z_var (i := 1) rfl (.int _)).en an_nil))) fun v H5 s5 d5 => q _ ⟨_, L, hL, hLD, fun i j hi hj => ?_, rfl⟩ v H5 (s'.trans s5) (Dn.anti s' d5)
      · have h := n_lcA (K := K) (σ := [some u, some (.int (L : Int)), y2, y3]) (H := H') (vs := [2]) (j := 2) (te := tLc (iSeq K (tVar 2)) (gName 3) tYes (tOp (rI IntMulOk fun i j => .int (i * j)) (tOp (rIx K) (tVar 3) (tC (.int 0))) (tOp (rI CDivX fun i j => .int (i.fdiv j)) (tVar 1) (tOp (rIx K) (tVar 3) (tC (.int 1))))) [3])
          (gd := fun i => intsL w' fun j => (F i j).num * (((L / (F i j).den : Nat)) : Int)) (src_seq (p_var (i := 0) rfl (L2.Dp.mono s' du)) hd).g (by rw [tab_len]; omega) (fun i hi x H1 s1 dx => by
            rw [tab_len] at hi
            rw [tab_getD hi] at dx
            have h := n_lcA (K := K) (σ := [some u, some (.int (L : Int)), some x, y3]) (H := H1) (vs := [3]) (j := 3) (te := (tOp (rI IntMulOk fun i j => .int (i * j)) (tOp (rIx K) (tVar 3) (tC (.int 0))) (tOp (rI CDivX fun i j => .int (i.fdiv j)) (tVar 1) (tOp (rIx K) (tVar 3) (tC (.int 1))))))
              (gd := fun j => .int ((F i j).num * (((L / (F i j).den : Nat)) : Int))) (src_seq (p_var (i := 2) rfl dx) (hrow i hi)).g (by rw [tab_len]; omega) (fun j hj z H2 s2 dz => by
                rw [tab_len] at hj
                rw [tab_getD hj] at dz
                have hdv := hden i j hi hj
                have hq : (((L / (F i j).den : Nat)) : Int).natAbs < 2 ^ 9000 := by
                  rw [Int.natAbs_natCast] at hLlt ⊢
                  exact Nat.lt_of_le_of_lt (Nat.div_le_self _ _) hLlt
                have zz : Ez K (tVar 3) [some u, some (.int (L : Int)), some x, some z] H2 (frD (F i j)) := z_var (i := 3) rfl dz
                have hfd : Ez K (tOp (rI CDivX fun i j => .int (i.fdiv j)) (tVar 1) (tOp (rIx K) (tVar 3) (tC (.int 1)))) [some u, some (.int (L : Int)), some x, some z] H2 (.int (((L / (F i j).den : Nat)) : Int)) := by
                  rw [← fdiv_nat]
                  exact z_fdiv (z_var (i := 1) rfl (.int _)) (z_den zz) ⟨by have := (F i j).den_pos; omega, log2_lt (by decide) (hlt (hF i j hi hj).1)⟩
                exact (z_mul (z_num zz) hfd (mulok (hF i j hi hj).2.1 hq (by omega))).en)
            rw [tab_len] at h
            exact h)
        rw [tab_len] at h
        exact h
      · obtain ⟨c, hc⟩ := hden i j hi hj
        have hp := (F i j).den_pos
        rw [hc, Nat.mul_div_cancel_left _ hp, Rat.intCast_mul, num_eq, Int.natCast_mul, Rat.intCast_mul]
        grind
abbrev s_as_table : Stmt := topS 46
abbrev N_as_table : List Str := ["numbers", "below", "row", "one"]
theorem sc_as_table : FnScope N_as_table ["numbers", "below"] (defScope s_as_table) := ⟨rfl, rfl, rfl, by decide +kernel, rfl, by decide +kernel, by decide +kernel⟩
theorem b_as_table (T : Txt K mg) : Binds K (T.fd 30) ["numbers", "below"] [] := (T.F 30 _ rfl).binds (ps := ["numbers", "below"]) fun _ _ _ _ _ _ us hl => match us, hl with | [_, _], _ => rfl

def PAsT : List PyData → PyData → Prop := fun ds r => ∃ (m w : Nat) (Z : Nat → Nat → Int) (L : Nat), ds = [intsM m w Z, .int (L : Int)] ∧ m ≤ 8 ∧ w ≤ 8 ∧ 0 < L ∧ L < 2 ^ 9000 ∧ r = matT m w fun i j => ((Z i j : Int) : Rat) / ((L : Int) : Rat)
theorem ok_as_table (T : Txt K mg) : FnOk P w K mg base CX0 2 (T.fa 30) (T.fd 30) ["numbers", "below"] (spD K PAsT) := by
  refine okD (T.F 30 _ rfl) sc_as_table (fun ds r h => ?_) (fun cdv A outer s H vs Q E ds r hr hv hp q => ?_)
  · obtain ⟨_, _, _, _, rfl, _⟩ := h; rfl
  · obtain ⟨m, w', Z, L, rfl, hm, hw, hL, hL9, rfl⟩ := hp
    obtain ⟨u, v, rfl, du, dv⟩ := two_of hv
    cases dv
    refine ⟨_, (pss_one (ps_ret (pe_callTy (call_tupleK K) (by rfl) (T.n "tuple") (by decide +kernel) (pa_cons (pe_lc (own := [("row", 2)])  rfl sc_as_table.nd (pi_listK K (pv 0)) (blkOk_by (N := N_as_table) (sc := defScope s_as_table) (by decide +kernel)) (fun _ _ _ _ _ => (pg_name (i := 2) sc_as_table.nd rfl (Or.inl rfl))) (fun _ _ _ _ _ => pts_nil) (fun _ _ _ _ _ => (pe_callTy (call_tupleK K) (by rfl) (T.n "tuple") (by decide +kernel) (pa_cons (pe_lc (own := [("one", 3)])  rfl sc_as_table.nd (pi_listK K (pv 2)) (blkOk_by (N := N_as_table) (sc := (relS ({ kind := PySem.ScopeKind.function, names := [ (PySem.Str.ofString ".0", PySem.NameKind.local), (PySem.Str.ofString "row", PySem.NameKind.local), (PySem.Str.ofString "tuple", PySem.NameKind.globalImplicit), (PySem.Str.ofString "below", PySem.NameKind.free)], isGenerator := false, isCoroutine := false, more := [] : PySem.Scope }) (defScope s_as_table))) (by decide +kernel)) (fun _ _ _ _ _ => (pg_name (i := 3) sc_as_table.nd rfl (Or.inl rfl))) (fun _ _ _ _ _ => pts_nil) (fun _ _ _ _ _ => (pe_call (ok_fraction T) (hr.mono (by decide)) (by rfl) (T.g 7 _ rfl) (T.F 7 _ rfl).kp (b_fraction T) .nil pass0 (pa_cons (pv 3) (pa_cons (pv 1) pa_nil))))) pa_nil)))) pa_nil)))), ?_⟩
    refine s_ret (K := K) (d := matT m w' fun i j => ((Z i j : Int) : Rat) / ((L : Int) : Rat)) (n_tuple ?_) q
    have h := n_lcA (K := K) (σ := start N_as_table [u, .int L]) (H := H) (vs := [2]) (j := 2) (te := tCB (rTupleOf K) (tCons (tLc (iList K (tVar 2)) (gName 3) tYes (tCall (spD K fun ds r => ∃ a b : Int, ds = [.int a, .int b] ∧ b ≠ 0 ∧ b.natAbs < 2 ^ 9000 ∧ r = frD ((a : Rat) / b)) [] E0 (tCons (tVar 3) (tCons (tVar 1) tNil))) [3]) tNil))
      (gd := fun i => rowT w' fun j => ((Z i j : Int) : Rat) / ((L : Int) : Rat)) (src_list (p_var (i := 0) rfl du)).g (by rw [tab_len]; omega) (fun i hi x H1 s1 dx => by
        rw [tab_len] at hi
        rw [tab_getD hi] at dx
        refine n_tuple ?_
        have h := n_lcA (K := K) (σ := [some u, some (.int L), some x, none]) (H := H1) (vs := [3]) (j := 3) (te := tCall (spD K fun ds r => ∃ a b : Int, ds = [.int a, .int b] ∧ b ≠ 0 ∧ b.natAbs < 2 ^ 9000 ∧ r = frD ((a : Rat) / b)) [] E0 (tCons (tVar 3) (tCons (tVar 1) tNil)))
          (gd := fun j => frD (((Z i j : Int) : Rat) / ((L : Int) : Rat))) (src_list (p_var (i := 2) rfl dx)).g (by rw [tab_len]; omega) (fun j hj z H2 s2 dz => by
            rw [tab_len] at hj
            rw [tab_getD hj] at dz
            exact n_call (a_cons (z_var (i := 3) rfl dz) (a_one (z_var (i := 1) rfl (.int _)))) ⟨_, _, rfl, by omega, nat_abs hL9, rfl⟩)
        rw [tab_len] at h
        exact h)
    rw [tab_len] at h
    exact h
abbrev s_integer_product : Stmt := topS 47
abbrev N_integer_product : List Str := ["ones", "others", "columns", "k", "row", "column", "one", "other"]
theorem sc_integer_product : FnScope N_integer_product ["ones", "others"] (defScope s_integer_product) := ⟨rfl, rfl, rfl, by decide +kernel, rfl, by decide +kernel, by decide +kernel⟩
theorem b_integer_product (T : Txt K mg) : Binds K (T.fd 31) ["ones", "others"] [] := (T.F 31 _ rfl).binds (ps := ["ones", "others"]) fun _ _ _ _ _ _ us hl => match us, hl with | [_, _], _ => rfl

def PIp : List PyData → PyData → Prop := fun ds r => ∃ (a b c : Nat) (X Y : Nat → Nat → Int) (k : Nat), ds = [intsM a b X, intsM b c Y] ∧ a ≤ 8 ∧ 1 ≤ b ∧ b ≤ 8 ∧ c ≤ 8 ∧ (∀ i j, i < a → j < b → (X i j).natAbs < 2 ^ k) ∧ (∀ i j, i < b → j < c → (Y i j).natAbs < 2 ^ k) ∧ k ≤ 400000 ∧
  r = intsM a c fun i j => isum b fun k => X i k * Y k j
theorem ok_integer_product (T : Txt K mg) : FnOk P w K mg base CX0 1 (T.fa 31) (T.fd 31) ["ones", "others"] (spD K PIp) := by
  refine okD (T.F 31 _ rfl) sc_integer_product (fun ds r h => ?_) (fun cdv A outer s H vs Q E ds r hr hv hp q => ?_)
  · obtain ⟨_, _, _, _, _, _, rfl, _⟩ := h; rfl
  · obtain ⟨a, b, c, X, Y, k, rfl, ha, hb1, hb, hc, hX, hY, hk, rfl⟩ := hp
    obtain ⟨u, v, rfl, du, dv⟩ := two_of hv
    refine ⟨_, (pss_cons (ps_set (i := 2) sc_integer_product.nd rfl (Or.inr rfl) (pe_lc (own := [("k", 3)])  rfl sc_integer_product.nd (pi_range1 (by rfl) (T.n "range") (pa_cons (pe_callB (call_lenK K) (by rfl) (T.n "len") PySem.boot_len (pa_cons (pe_ix (ix_seqK K) (pv 1) pe_int (fun _ _ => rfl)) pa_nil)) pa_nil)) (blkOk_by (N := N_integer_product) (sc := defScope s_integer_product) (by decide +kernel)) (fun _ _ _ _ _ => (pg_name (i := 3) sc_integer_product.nd rfl (Or.inr rfl))) (fun _ _ _ _ _ => pts_nil) (fun _ _ _ _ _ => (pe_lc (own := [("row", 4)])  rfl sc_integer_product.nd (pi_listK K (pv 1)) (blkOk_by (N := N_integer_product) (sc := (relS ({ kind := PySem.ScopeKind.function, names := [ (PySem.Str.ofString ".0", PySem.NameKind.local), (PySem.Str.ofString "k", PySem.NameKind.cell), (PySem.Str.ofString "others", PySem.NameKind.free)], isGenerator := false, isCoroutine := false, more := [] : PySem.Scope }) (defScope s_integer_product))) (by decide +kernel)) (fun _ _ _ _ _ => (pg_name (i := 4) sc_integer_product.nd rfl (Or.inl rfl))) (fun _ _ _ _ _ => pts_nil) (fun _ _ _ _ _ => (pe_ix (ix_seqK K) (pv 4) (pv 3) (fun _ _ => rfl)))))))
      (pss_one (ps_ret (pe_lc (own := [("row", 4)])  rfl sc_integer_product.nd (pi_listK K (pv 0)) (blkOk_by (N := N_integer_product) (sc := defScope s_integer_product) (by decide +kernel)) (fun _ _ _ _ _ => (pg_name (i := 4) sc_integer_product.nd rfl (Or.inr rfl))) (fun _ _ _ _ _ => pts_nil) (fun _ _ _ _ _ => (pe_lc (own := [("column", 5)])  rfl sc_integer_product.nd (pi_listK K (pv 2)) (blkOk_by (N := N_integer_product) (sc := (relS ({ kind := PySem.ScopeKind.function, names := [ (PySem.Str.ofString ".0", PySem.NameKind.local), (PySem.Str.ofString "row", PySem.NameKind.cell), (PySem.Str.ofString "columns", PySem.NameKind.free)], isGenerator := false, isCoroutine := false, more := [] : PySem.Scope }) (defScope s_integer_product))) (by decide +kernel)) (fun _ _ _ _ _ => (pg_name (i := 5) sc_integer_product.nd rfl (Or.inl rfl))) (fun _ _ _ _ _ => pts_nil) (fun _ _ _ _ _ => (pe_callB (cr_sumK K rfl) (by rfl) (T.n "sum") (by decide +kernel) (pa_cons (pe_lc (own := [("one", 6), ("other", 7)])  rfl sc_integer_product.nd (pi_zipK K (by rfl) (T.n "zip") (pa_cons (pv 4) (pa_cons (pv 5) pa_nil))) (blkOk_by (N := N_integer_product) (sc := (relS ({ kind := PySem.ScopeKind.function, names := [ (PySem.Str.ofString ".0", PySem.NameKind.local), (PySem.Str.ofString "column", PySem.NameKind.local), (PySem.Str.ofString "sum", PySem.NameKind.globalImplicit), (PySem.Str.ofString "zip", PySem.NameKind.globalImplicit), (PySem.Str.ofString "row", PySem.NameKind.free)], isGenerator := false, isCoroutine := false, more := [] : PySem.Scope }) (relS ({ kind := PySem.ScopeKind.function, names := [ (PySem.Str.ofString ".0", PySem.NameKind.local), (PySem.Str.ofString "row", PySem.NameKind.cell), (PySem.Str.ofString "columns", PySem.NameKind.free)], isGenerator := false, isCoroutine := false, more := [] : PySem.Scope }) (defScope s_integer_product)))) (by decide +kernel)) (fun _ _ _ _ _ => (pg_tupK K (n := 2) rfl (pgs_cons (pg_name (i := 6) sc_integer_product.nd rfl (Or.inl rfl)) (pgs_cons (pg_name (i := 7) sc_integer_product.nd rfl (Or.inl rfl)) pgs_nil)))) (fun _ _ _ _ _ => pts_nil) (fun _ _ _ _ _ => (pe_op op_mulX (pv 6) (pv 7)))) pa_nil))))))))), ?_⟩
    refine s_set (K := K) (d := intsM c b fun j k => Y k j) (En.ez ?_) fun x2 H2 s2 d2 => ?_
    · have hl := p_lenL (K := K) (σ := start N_integer_product [u, v]) (p_ixL (i := 0) (p_var (i := 1) rfl dv) p_int (tab_at (show 0 < b by omega)))
      rw [tab_len] at hl
      refine n_lcA (src_r1 (ap_one hl) (by omega)).g (by omega) fun j hj z H2 s2 dz => ?_
      cases dz
      have h := n_lcA (K := K) (σ := [some u, some v, none, some (.int j), none, none, none, none]) (H := H2) (vs := [4]) (j := 4) (te := tOp (rIx K) (tVar 4) (tVar 3)) (gd := fun k => .int (Y k j)) (src_list (p_var (i := 1) rfl (L2.Dp.mono s2 dv))).g (by rw [tab_len]; omega) (fun k hk x H3 s3 dx => by
        rw [tab_len] at hk
        rw [tab_getD hk] at dx
        exact (z_ixL (i := j) (z_var (i := 4) rfl dx) (z_var (i := 3) rfl (.int _)) (tab_at hj)).en)
      rw [tab_len] at h
      exact h
    refine s_ret (K := K) (d := intsM a c fun i j => isum b fun k => X i k * Y k j) ?_ fun v H3 s3 d3 => q v H3 (s2.trans s3) (Dn.anti s2 d3)
    have h := n_lcA (K := K) (σ := [some u, some v, some x2, none, none, none, none, none]) (H := H2) (vs := [4]) (j := 4) (te := tLc (iList K (tVar 2)) (gName 5) tYes (tCB (rSum K) (tCons (tLc (iZipX K (tCons (tVar 4) (tCons (tVar 5) tNil))) (g2 K 6 7) tYes (tOp (rI IntMulOk fun i j => .int (i * j)) (tVar 6) (tVar 7)) [6, 7]) tNil)) [5])
      (gd := fun i => intsL c fun j => isum b fun k => X i k * Y k j) (src_list (p_var (i := 0) rfl (L2.Dp.mono s2 du))).g (by rw [tab_len]; omega) (fun i hi x H3 s3 dx => by
        rw [tab_len] at hi
        rw [tab_getD hi] at dx
        have h := n_lcA (K := K) (σ := [some u, some v, some x2, none, some x, none, none, none]) (H := H3) (vs := [5]) (j := 5) (te := tCB (rSum K) (tCons (tLc (iZipX K (tCons (tVar 4) (tCons (tVar 5) tNil))) (g2 K 6 7) tYes (tOp (rI IntMulOk fun i j => .int (i * j)) (tVar 6) (tVar 7)) [6, 7]) tNil))
          (gd := fun j => .int (isum b fun k => X i k * Y k j)) (src_list (p_var (i := 2) rfl (L2.Dp.mono s3 d2))).g (by rw [tab_len]; omega) (fun j hj y H4 s4 dy => by
            rw [tab_len] at hj
            rw [tab_getD hj] at dy
            refine Ez.en (z_sum (En.ez ?_))
            have h := n_lc2A (K := K) (σ := [some u, some v, some x2, none, some x, some y, none, none]) (H := H4) (vs := [6, 7]) (j := 6) (k := 7) (te := tOp (rI IntMulOk fun i j => .int (i * j)) (tVar 6) (tVar 7)) (gd := fun k => .int (X i k * Y k j))
              (src_zip (ap_cons (p_var (i := 4) rfl (L2.Dp.mono s4 dx)) (ap_one (p_var (i := 5) rfl dy))) (.inl ⟨rfl, rfl⟩) (by rw [tab_len, tab_len])) (by rw [tab_len]; omega) (fun k' hk' p r H5 s5 dp dr => by
                rw [tab_len] at hk'
                rw [tab_getD hk'] at dp dr
                exact (z_mul (z_var (i := 6) rfl dp) (z_var (i := 7) rfl dr) (mulok (hX i k' hi hk') (hY k' j hk' hj) (by omega))).en)
            rw [tab_len] at h
            exact h)
        rw [tab_len] at h
        exact h)
    rw [tab_len] at h
    exact h
end
end Ck
end

section
set_option Elab.async false
set_option linter.all false
set_option maxRecDepth 100000
set_option maxHeartbeats 4000000
/-! power. -/
namespace Ck
open PySem PySem.Spec PyProof.Rows L2
section
variable {P : Program} {w : World} {K : Fg} {mg : Str → Option Value} {base : Heap}
abbrev s_power : Stmt := topS 48
abbrev N_power : List Str := ["table", "rounds", "square", "step", "made", "below", "times_left"]
theorem sc_power : FnScope N_power ["table", "rounds"] (defScope s_power) := ⟨rfl, rfl, rfl, by decide +kernel, rfl, by decide +kernel, by decide +kernel⟩
theorem b_power (T : Txt K mg) : Binds K (T.fd 32) ["table", "rounds"] [] := (T.F 32 _ rfl).binds (ps := ["table", "rounds"]) fun _ _ _ _ _ _ us hl => match us, hl with | [_, _], _ => rfl

def PPow : List PyData → PyData → Prop := fun ds r => ∃ (n : Nat) (A : Mx) (R D : Nat), ds = [tabD n A, .int (R : Int)] ∧ Tb n A ∧ 0 < D ∧ (∀ i j, i < n → j < n → (A i j).den ∣ D) ∧ D ^ (R + 1) < 2 ^ 2900 ∧ r = tabD n (pw n A R)
theorem pow_le' {L D q R : Nat} (hL : L ≤ D) (hD : 0 < D) (hq : q ≤ R) : L ^ q ≤ D ^ R := Nat.le_trans (Nat.pow_le_pow_left hL q) (Nat.pow_le_pow_right hD hq)
theorem ok_power (T : Txt K mg) : FnOk P w K mg base CX0 8 (T.fa 32) (T.fd 32) ["table", "rounds"] (spD K PPow) := by
  refine okD (T.F 32 _ rfl) sc_power (fun ds r h => ?_) (fun cdv A0 outer s H vs Q E ds r hr hv hp q => ?_)
  · obtain ⟨_, _, _, _, rfl, _⟩ := h; rfl
  · obtain ⟨n, A, R, D, rfl, t, hD, hdn, hDR, rfl⟩ := hp
    obtain ⟨u, v, rfl, du, dv⟩ := two_of hv
    cases dv
    refine ⟨_, (pss_cons (ps_expr (pe_call (ok_need_table T) (hr.mono (by decide)) (by rfl) (T.g 25 _ rfl) (T.F 25 _ rfl).kp (b_need_table T) .nil pass0 (pa_cons (pv 0) pa_nil)))
      (pss_cons (ps_if (pt_cmpR op_lt (pv 1) pe_int (nomark _))
       (pss_one ps_never)
       pss_nil)
      (pss_cons (ps_asg (pe_call (ok_as_integers T) (hr.mono (by decide)) (by rfl) (T.g 29 _ rfl) (T.F 29 _ rfl).kp (b_as_integers T) .nil pass0 (pa_cons (pv 0) pa_nil)) (pg_tupK K (n := 2) rfl (pgs_cons (pg_name (i := 2) sc_power.nd rfl (Or.inl rfl)) (pgs_cons (pg_name (i := 3) sc_power.nd rfl (Or.inl rfl)) pgs_nil))))
      (pss_cons (ps_asg (pe_call (ok_as_integers T) (hr.mono (by decide)) (by rfl) (T.g 29 _ rfl) (T.F 29 _ rfl).kp (b_as_integers T) .nil pass0 (pa_cons (pe_call (ok_still T) (hr.mono (by decide)) (by rfl) (T.g 26 _ rfl) (T.F 26 _ rfl).kp (b_still T) .nil pass0 (pa_cons (pe_callB (call_lenK K) (by rfl) (T.n "len") PySem.boot_len (pa_cons (pv 0) pa_nil)) pa_nil)) pa_nil)) (pg_tupK K (n := 2) rfl (pgs_cons (pg_name (i := 4) sc_power.nd rfl (Or.inl rfl)) (pgs_cons (pg_name (i := 5) sc_power.nd rfl (Or.inl rfl)) pgs_nil))))
      (pss_cons (ps_set (i := 6) sc_power.nd rfl (Or.inl rfl) (pv 1))
      (pss_cons (ps_while PassesOwn.never (pt_cmpR op_gt (pv 6) pe_int (nomark _))
       (pss_cons (ps_if (pt_cmpR (op_eqK K hr.units) (pe_op op_mod (pv 6) pe_int) pe_int (nomark _))
        (pss_cons (ps_set (i := 4) sc_power.nd rfl (Or.inl rfl) (pe_call (ok_integer_product T) (hr.mono (by decide)) (by rfl) (T.g 31 _ rfl) (T.F 31 _ rfl).kp (b_integer_product T) .nil pass0 (pa_cons (pv 2) (pa_cons (pv 4) pa_nil))))
        (pss_one (ps_set (i := 5) sc_power.nd rfl (Or.inl rfl) (pe_op op_mulX (pv 5) (pv 3)))))
        pss_nil)
       (pss_cons (ps_set (i := 6) sc_power.nd rfl (Or.inl rfl) (pe_op op_fdivX (pv 6) pe_int))
       (pss_one (ps_if (pt_cmpR op_gt (pv 6) pe_int (nomark _))
        (pss_cons (ps_set (i := 2) sc_power.nd rfl (Or.inl rfl) (pe_call (ok_integer_product T) (hr.mono (by decide)) (by rfl) (T.g 31 _ rfl) (T.F 31 _ rfl).kp (b_integer_product T) .nil pass0 (pa_cons (pv 2) (pa_cons (pv 2) pa_nil))))
        (pss_one (ps_set (i := 3) sc_power.nd rfl (Or.inl rfl) (pe_op op_mulX (pv 3) (pv 3)))))
        pss_nil)))))
      (pss_one (ps_ret (pe_call (ok_as_table T) (hr.mono (by decide)) (by rfl) (T.g 30 _ rfl) (T.F 30 _ rfl).kp (b_as_table T) .nil pass0 (pa_cons (pv 4) (pa_cons (pv 5) pa_nil))))))))))), ?_⟩
    have h5 := t.n5
    have h1 := t.n1
    have hD9 : D < 2 ^ 2900 := Nat.lt_of_le_of_lt (by
      have := Nat.pow_le_pow_right hD (show 1 ≤ R + 1 by omega)
      rw [Nat.pow_one] at this; exact this) hDR
    refine s_expr (z_call (a_one (z_var (i := 0) rfl du)) ⟨n, A, rfl, t, rfl⟩) fun H1 s1 => ?_
    refine s_pass ?_ fun H2 s2 => ?_
    · have h := z_cmp (K := K) (p := fun i j => decide (i < j)) (z_var (σ := start N_power [u, .int R]) (H := H1) (i := 1) rfl (.int _)) (z_int (i := 0))
      rw [decide_eq_false (show ¬ (R : Int) < 0 by omega)] at h
      exact t_val h
    have s12 := s1.trans s2
    -- square, step
    refine r_call (K := K) (a_one (z_var (i := 0) rfl (L2.Dp.mono s12 du))) ⟨_, fun i => rowT n (A i), n, n, A, D, 3000, rfl, .inr rfl, fun i hi => .inr rfl, by omega, by omega, hD, lt_pw hD9 (by decide), by decide, fun i j hi hj => ⟨hdn i j hi hj, t.bd hi hj⟩, rfl⟩ fun r hr2 v3 H3 s3 d3 => ?_
    obtain ⟨Z0, L, hL, hLD, hZ0, rfl⟩ := hr2
    obtain ⟨ta, sq, y2, rfl, hT, dsq, dy2⟩ := dn_pair d3
    refine g2_any hT ?_
    cases dy2
    dsimp only
    have s13 := s12.trans s3
    -- made, below
    refine r_call (K := K) (a_one (z_call (a_one ?_) ⟨n, rfl, h1, h5, rfl⟩)) ⟨_, fun i => rowT n (idm i), n, n, idm, 1, 2, rfl, .inr rfl, fun i hi => .inr rfl, by omega, by omega, by decide, by decide, by decide, fun i j hi hj => ?_, rfl⟩ fun r hr2 v4 H4 s4 d4 => ?_
    · have h := z_lenT (K := K) (z_var (σ := [some u, some (.int R), some sq, some (.int (L : Int)), none, none, none]) (i := 0) rfl (L2.Dp.mono s13 du))
      rw [tab_len] at h
      exact h
    · unfold idm
      split
      · exact ⟨Nat.dvd_refl _, by constructor <;> decide⟩
      · exact ⟨Nat.dvd_refl _, by constructor <;> decide⟩
    obtain ⟨Y0, M, hM, hM1, hY0, rfl⟩ := hr2
    have eM : M = 1 := Nat.dvd_one.mp hM1
    subst eM
    obtain ⟨tb, md, y2, rfl, hT, dmd, dy2⟩ := dn_pair d4
    refine g2_any hT ?_
    cases dy2
    dsimp only
    have s14 := s13.trans s4
    refine s_set (K := K) (z_var (i := 1) rfl (.int _)) fun v5 H5 s5 d5 => ?_
    cases d5
    have s15 := s14.trans s5
    have hLle : L ≤ D := Nat.le_of_dvd hD hLD
    have small : ∀ {q : Nat}, q ≤ R + 1 → L ^ q < 2 ^ 2900 := fun hq => Nat.lt_of_le_of_lt (pow_le' hLle hD hq) hDR
    refine s_while (fun m σ' H' => ∃ (t' a b e f : Nat) (Z Y : Nat → Nat → Int) (sq md : V), σ' = [some u, some (.int R), some sq, some (.int (e : Int)), some md, some (.int (f : Int)), some (.int (t' : Int))] ∧ Same H H' ∧ Dp K H' sq (intsM n n Z) ∧ Dp K H' md (intsM n n Y) ∧ Sc n n (pw n A b) e Z ∧ Sc n n (pw n A a) f Y ∧ e = L ^ b ∧ f = L ^ a ∧ 1 ≤ b ∧ b ≤ R + 1 ∧ (0 < t' → a + t' * b = R) ∧ (t' = 0 → a = R) ∧ m = t')
      (m0 := R) ⟨R, 0, 1, L, 1, Z0, Y0, sq, md, rfl, s15, L2.Dp.mono (s4.trans s5) dsq.dp, L2.Dp.mono s5 dmd.dp, ?_, hY0, (Nat.pow_one _).symm, rfl, Nat.le_refl _, by omega, fun _ => by omega, fun h => h.symm, rfl⟩ fun m σ' H' p => ?_
    · intro i j hi hj
      have e := pw_one (n := n) A i j hi hj
      rw [e]; exact hZ0 i j hi hj
    · obtain ⟨t', a, b, e, f, Z, Y, sq, md, rfl, s', dsq, dmd, hZ, hY, rfl, rfl, hb1, hbR, ht, ht0, rfl⟩ := p
      have bZ : ∀ i j, i < n → j < n → (Z i j).natAbs < 2 ^ 2900 := fun i j hi hj => hZ.bd (t.tab.pw b) (small hbR) hi hj
      refine ⟨decide (0 < (m : Int)), t_val (K := K) (z_cmp (p := fun i j => decide (j < i)) (z_var (i := 6) rfl (.int _)) z_int), fun hb H6 s6 => ?_, fun hb H6 s6 => ?_⟩
      · have hm : 0 < m := by have := of_decide_eq_true hb; omega
        have hsum := ht hm
        have haR : a ≤ R := by
          have := Nat.mul_pos hm hb1; omega
        have bY : ∀ i j, i < n → j < n → (Y i j).natAbs < 2 ^ 2900 := fun i j hi hj => hY.bd (t.tab.pw a) (small (by omega)) hi hj
        have s16 := s'.trans s6
        -- after the first branch
        suffices hmid : ∀ (a2 f2 : Nat) (Y2 : Nat → Nat → Int) (md2 : V) (H7 : Hp), Same H6 H7 → Dp K H7 md2 (intsM n n Y2) → Sc n n (pw n A a2) f2 Y2 → f2 = L ^ a2 → a2 + (m / 2) * (2 * b) = R → tSeq (tAsg (tOp (rI CDivX fun i j => .int (i.fdiv j)) (tVar 6) (tC (.int 2))) (gName 6)) (tIfS (tB (tOp (rI0 fun i j => .bl (decide (j < i))) (tVar 6) (tC (.int 0)))) (tSeq (tAsg (tCall (spD K PIp) [] E0 (tCons (tVar 2) (tCons (tVar 2) tNil))) (gName 2)) (tAsg (tOp (rI IntMulOk fun i j => .int (i * j)) (tVar 3) (tVar 3)) (gName 3))) tNext)
            { nx := fun σ' H' => ∃ m', m' < m ∧ (∃ (t' a b e f : Nat) (Z Y : Nat → Nat → Int) (sq md : V), σ' = [some u, some (.int R), some sq, some (.int (e : Int)), some md, some (.int (f : Int)), some (.int (t' : Int))] ∧ Same H H' ∧ Dp K H' sq (intsM n n Z) ∧ Dp K H' md (intsM n n Y) ∧ Sc n n (pw n A b) e Z ∧ Sc n n (pw n A a) f Y ∧ e = L ^ b ∧ f = L ^ a ∧ 1 ≤ b ∧ b ≤ R + 1 ∧ (0 < t' → a + t' * b = R) ∧ (t' = 0 → a = R) ∧ m' = t'), rt := Q, ct := fun σ' H' => ∃ m', m' < m ∧ (∃ (t' a b e f : Nat) (Z Y : Nat → Nat → Int) (sq md : V), σ' = [some u, some (.int R), some sq, some (.int (e : Int)), some md, some (.int (f : Int)), some (.int (t' : Int))] ∧ Same H H' ∧ Dp K H' sq (intsM n n Z) ∧ Dp K H' md (intsM n n Y) ∧ Sc n n (pw n A b) e Z ∧ Sc n n (pw n A a) f Y ∧ e = L ^ b ∧ f = L ^ a ∧ 1 ≤ b ∧ b ≤ R + 1 ∧ (0 < t' → a + t' * b = R) ∧ (t' = 0 → a = R) ∧ m' = t'), bk := tRet (tCall (spD K PAsT) [] E0 (tCons (tVar 4) (tCons (tVar 5) tNil))) { nx := fun _ H' => Q .non H', rt := Q } }
            [some u, some (.int R), some sq, some (.int ((L ^ b : Nat) : Int)), some md2, some (.int (f2 : Int)), some (.int (m : Int))] H7 by
          refine s_if (b := decide ((m : Int) % 2 = 1)) (t_val (K := K) (z_eqI (z_intC (C := fun _ j => 0 < j) (g := fun i j => i % j) (z_var (i := 6) rfl (.int _)) z_int (by decide)) z_int)) (fun ho H7 s7 => ?_) (fun ho H7 s7 => ?_)
          · have ho := of_decide_eq_true ho
            refine s_set (K := K) (z_call (a_cons (z_var (i := 2) rfl (L2.Dp.mono (s6.trans s7) dsq)) (a_one (z_var (i := 4) rfl (L2.Dp.mono (s6.trans s7) dmd)))) ⟨n, n, n, Z, Y, 2900, rfl, by omega, h1, by omega, by omega, bZ, bY, by decide, rfl⟩) fun v8 H8 s8 d8 => ?_
            refine s_set1 (K := K) (z_mul (z_var (i := 5) rfl (.int _)) (z_var (i := 3) rfl (.int _)) (mulok (nat_abs (small (show a ≤ R + 1 by omega))) (nat_abs (small hbR)) (by decide))) fun v9 H9 s9 d9 => ?_
            cases d9
            rw [← Int.natCast_mul, Nat.mul_comm (L ^ a)]
            have hdiv : a + b + m / 2 * (2 * b) = R := by
              have h1 : m = 2 * (m / 2) + 1 := by omega
              have h2 : m * b = 2 * (m / 2) * b + b := by
                conv => lhs; rw [h1]
                rw [Nat.add_mul, Nat.one_mul]
              have h3 : m / 2 * (2 * b) = 2 * (m / 2) * b := by
                rw [← Nat.mul_assoc, Nat.mul_comm (m / 2) 2]
              omega
            refine hmid (a + b) _ _ v8 H9 ((s7.trans s8).trans s9) (L2.Dp.mono s9 d8) ((hZ.mul hY).congr fun i j hi hj => ?_) ?_ hdiv
            · rw [Nat.add_comm]; exact ((pw_add (n := n) A b a) i j hi hj).symm
            · rw [Nat.add_comm, Nat.pow_add]
          · have ho := of_decide_eq_false ho
            have hdiv : a + m / 2 * (2 * b) = R := by
              have h1 : m = 2 * (m / 2) := by omega
              have h2 : m * b = 2 * (m / 2) * b := by
                conv => lhs; rw [h1]
              have h3 : m / 2 * (2 * b) = 2 * (m / 2) * b := by
                rw [← Nat.mul_assoc, Nat.mul_comm (m / 2) 2]
              omega
            exact hmid a _ Y md H7 s7 (L2.Dp.mono (s6.trans s7) dmd) hY rfl hdiv
        intro a2 f2 Y2 md2 H7 s7 dmd2 hY2 hf2 hsum2
        have hfd : Ez K (tOp (rI CDivX fun i j => .int (i.fdiv j)) (tVar 6) (tC (.int 2))) [some u, some (.int R), some sq, some (.int ((L ^ b : Nat) : Int)), some md2, some (.int (f2 : Int)), some (.int (m : Int))] H7 (.int ((m / 2 : Nat) : Int)) := by
          rw [← fdiv_nat]
          exact z_fdiv (z_var (i := 6) rfl (.int _)) z_int ⟨by decide, by decide⟩
        refine s_set (K := K) hfd fun v8 H8 s8 d8 => ?_
        cases d8
        refine s_if1 (b := decide (0 < ((m / 2 : Nat) : Int))) (t_val (K := K) (z_cmp (p := fun i j => decide (j < i)) (z_var (i := 6) rfl (.int _)) z_int)) (fun ho H9 s9 => ?_) (fun ho H9 s9 => ?_)
        · have ho : 0 < m / 2 := by have := of_decide_eq_true ho; omega
          have s69 := (s7.trans s8).trans s9
          have hb2 : 2 * b ≤ R := by
            have := Nat.le_mul_of_pos_left (2 * b) ho
            omega
          have dsq9 := L2.Dp.mono (s6.trans s69) dsq
          refine s_set (K := K) (z_call (a_cons (z_var (i := 2) rfl dsq9) (a_one (z_var (i := 2) rfl dsq9))) ⟨n, n, n, Z, Z, 2900, rfl, by omega, h1, by omega, by omega, bZ, bZ, by decide, rfl⟩) fun v10 H10 s10 d10 => ?_
          refine s_set1 (K := K) (z_mul (z_var (i := 3) rfl (.int _)) (z_var (i := 3) rfl (.int _)) (mulok (nat_abs (small hbR)) (nat_abs (small hbR)) (by decide))) fun v11 H11 s11 d11 => ?_
          cases d11
          rw [← Int.natCast_mul]
          refine ⟨m / 2, by omega, m / 2, a2, 2 * b, _, f2, _, Y2, v10, md2, rfl, (s16.trans s69).trans (s10.trans s11), L2.Dp.mono s11 d10, L2.Dp.mono (((s8.trans s9).trans s10).trans s11) dmd2, (hZ.mul hZ).congr fun i j hi hj => ?_, hY2, ?_, hf2, by omega, by omega, fun _ => hsum2, fun h => by omega, rfl⟩
          · rw [Nat.two_mul]; exact ((pw_add (n := n) A b b) i j hi hj).symm
          · rw [Nat.two_mul, Nat.pow_add]
        · have ho : m / 2 = 0 := by have := of_decide_eq_false ho; omega
          have s69 := (s7.trans s8).trans s9
          rw [ho, Nat.zero_mul, Nat.add_zero] at hsum2
          refine ⟨m / 2, by omega, m / 2, a2, b, _, f2, Z, Y2, sq, md2, rfl, s16.trans s69, L2.Dp.mono (s6.trans s69) dsq, L2.Dp.mono (s8.trans s9) dmd2, hZ, hY2, rfl, hf2, hb1, hbR, fun h => by omega, fun _ => hsum2, rfl⟩
      · have hm : m = 0 := by have := of_decide_eq_false hb; omega
        have haR := ht0 hm
        subst haR
        have hLp : 0 < L ^ a := Nat.pow_pos hL
        refine s_ret (K := K) (d := tabD n (pw n A a)) (n_call (a_cons (z_var (i := 4) rfl (L2.Dp.mono s6 dmd)) (a_one (z_var (i := 5) rfl (.int _)))) ⟨n, n, Y, L ^ a, rfl, by omega, by omega, hLp, lt_pw (small (by omega)) (by decide), matT_congr fun i j hi hj => ?_⟩) fun v H7 s7 d7 => q v H7 ((s'.trans s6).trans s7) (Dn.anti (s'.trans s6) d7)
        have e := hY i j hi hj
        have hne : (((L ^ a : Nat) : Int) : Rat) ≠ 0 := by
          have : (0 : Rat) < (((L ^ a : Nat) : Int) : Rat) := Rat.intCast_pos.mpr (by omega)
          grind
        rw [← e]
        grind
end
end Ck
end

section
set_option Elab.async false
set_option linter.all false
set_option maxRecDepth 100000
set_option maxHeartbeats 4000000
/-! goes_to, reached_from, rings. -/
namespace Ck
open PySem PySem.Spec PyProof.Rows L2
/-- a list of casks, as data and as values -/
def di (ns : List Nat) : List PyData := ns.map fun i => .int ((i : Nat) : Int)
def vi (ns : List Nat) : List V := ns.map fun i => .int ((i : Nat) : Int)
theorem di_il {ns : List Nat} : di ns = (ns.map fun i => ((i : Nat) : Int)).map PyData.int := by unfold di; rw [List.map_map]; rfl
theorem vi_il {ns : List Nat} : vi ns = (ns.map fun i => ((i : Nat) : Int)).map V.int := by unfold vi; rw [List.map_map]; rfl
theorem di_len {ns : List Nat} : (di ns).length = ns.length := by unfold di; rw [List.length_map]
theorem vi_len {ns : List Nat} : (vi ns).length = ns.length := by unfold vi; rw [List.length_map]
theorem flat_di {ns : List Nat} : flatDs (di ns) = true := by
  unfold di
  induction ns with
  | nil => rfl
  | cons a l ih => exact ih
theorem vi_di {K : Fg} {H : Hp} {ns : List Nat} : DpAll K H (vi ns) (di ns) := by rw [vi_il, di_il]; exact .ints
theorem vi_dn {K : Fg} {H0 H : Hp} {ns : List Nat} : DnAll K H0 H (vi ns) (di ns) := by rw [vi_il, di_il]; exact .ints
theorem vi_of {K : Fg} {H : Hp} {ns : List Nat} {vs : List V} (h : DpAll K H vs (di ns)) : vs = vi ns := by
  rw [di_il] at h; rw [vi_il]; exact h.int_eq
theorem il_inj {ns ms : List Nat} (h : (ns.map fun i => ((i : Nat) : Int)) = ms.map fun i => ((i : Nat) : Int)) : ns = ms :=
  List.map_inj_right (fun _ _ e => Int.ofNat.inj e) |>.mp h
theorem shp_di {ns : List Nat} : Shp 1 (.list (di ns)) := by rw [di_il]; exact shp_ints
theorem eqv_di {ns ms : List Nat} : PyData.eqv (.list (di ns)) (.list (di ms)) = decide (ns = ms) := by
  rw [di_il, di_il]
  have h : ∀ l m : List Int, PyData.eqv (.list (l.map PyData.int)) (.list (m.map PyData.int)) = PyData.eqvAll (l.map PyData.int) (m.map PyData.int) := fun l m => by rw [PyData.eqv]
  rw [h, eqv_ints]
  by_cases e : ns = ms
  · rw [e, decide_eq_true rfl, decide_eq_true rfl]
  · rw [decide_eq_false e, decide_eq_false fun z => e (il_inj z)]
theorem inV_vi {ns : List Nat} {a : Nat} : inV (.int (a : Int)) (vi ns) = decide (a ∈ ns) := by
  unfold inV vi
  induction ns with
  | nil => rfl
  | cons b l ih =>
    rw [List.map_cons, List.any_cons, ih]
    show (((b : Nat) : Int) == (a : Int) || _) = _
    by_cases h : a = b
    · subst h; simp
    · have e1 : (((b : Nat) : Int) == (a : Int)) = false := by
        rw [beq_eq_false_iff_ne]; omega
      rw [e1]; simp [h]
theorem flatV_vi {ns : List Nat} : (vi ns).all flatV = true := by
  unfold vi
  induction ns with
  | nil => rfl
  | cons a l ih => exact ih
theorem map_tab {α : Type} {l : List α} {f : α → PyData} (x : α) : l.map f = tab l.length fun i => f (l.getD i x) := by
  refine List.ext_getElem? fun i => ?_
  by_cases h : i < l.length
  · rw [tab_at h, List.getElem?_map, List.getElem?_eq_getElem h, List.getD_eq_getElem?_getD, List.getElem?_eq_getElem h]; rfl
  · rw [List.getElem?_eq_none (by rw [List.length_map]; omega), List.getElem?_eq_none (by rw [tab_len]; omega)]
theorem sorted_eq : ∀ {l m : List Int}, l.Perm m → l.Pairwise (· ≤ ·) → m.Pairwise (· < ·) → l = m
  | [], m, p, _, _ => (List.nil_perm.mp p).symm
  | a :: l, [], p, _, _ => absurd p.length_eq (by simp)
  | a :: l, b :: m, p, h1, h2 => by
    have h1' := List.pairwise_cons.mp h1
    have h2' := List.pairwise_cons.mp h2
    have ha : a ∈ b :: m := p.mem_iff.mp List.mem_cons_self
    have hb : b ∈ a :: l := p.mem_iff.mpr List.mem_cons_self
    have e : a = b := by
      rcases List.mem_cons.mp ha with e | e
      · exact e
      · rcases List.mem_cons.mp hb with f | f
        · exact f.symm
        · have := h1'.1 b f
          have := h2'.1 a e
          omega
    subst e
    rw [sorted_eq ((List.perm_cons a).mp p) h1'.2 h2'.2]
section
variable {P : Program} {w : World} {K : Fg} {mg : Str → Option Value} {base : Heap}
section
variable {σ : L2.St} {H Hb : Hp} {ta tb te : TE} {tr : TA} {D : Ends} {rest tbo : TS} {d : PyData} {ds : List PyData} {R : PyData → Prop}
/-- the answer is told by what holds of it -/
def Er (K : Fg) (t : TE) (σ : L2.St) (H : Hp) (R : PyData → Prop) : Prop := ∀ H1, Same H H1 → ∀ Q : VK, (∀ r, R r → ∀ v H2, Same H1 H2 → Dn K H1 H2 v r → Q v H2) → t σ H1 Q
theorem er_call {Pd : List PyData → (PyData → Prop) → Prop} {E : XK} (ha : Az K tr σ H ds) (hp : Pd ds R) : Er K (tCall (spR K Pd) [] E tr) σ H R := fun H1 s Q q => r_call (ha.mono s) hp q
theorem n_sortR {out : List Nat} (h : Er K te σ H R) (hR : ∀ r, R r → ∃ ns : List Nat, r = .list (di ns) ∧ ns.length < 64 ∧ ns.Perm out) (ho : out.Pairwise (· < ·)) : En K (tCB (rSorted K) (tCons te tNil)) σ H (.list (di out)) := fun H1 s Q q =>
  h H1 s _ fun r hr v H2 s2 dv => by
    obtain ⟨ns, rfl, hl, hp⟩ := hR r hr
    cases dv with
    | lst h0 hs ha =>
      rename_i a xs
      have e := vi_of ha.dp
      subst e
      refine ⟨a, ns.map fun i => ((i : Nat) : Int), rfl, by rw [← vi_il]; exact SqL.of hs, by rw [List.length_map]; exact hl, fun ns' p h1 h2 hn => ?_⟩
      have e2 : ns' = out.map fun i => ((i : Nat) : Int) := sorted_eq (h1.trans (hp.map _)) h2 (by
        rw [List.pairwise_map]
        exact ho.imp fun h => by omega)
      subst e2
      rw [← vi_il]
      exact q _ _ (s2.trans (same_new hn)) (.lst (s2.free hn) upd_same vi_dn)
theorem n_tupleF (h : Ez K te σ H (.list ds)) (f : flatDs ds = true) : En K (tCB (rTupleOf K) (tCons te tNil)) σ H (.tuple ds) := fun H1 s Q q =>
  h H1 s _ fun v H2 s2 dv => by
    obtain ⟨a, xs, rfl, hs, hx⟩ := dv.isLst
    exact ⟨a, xs, rfl, .inl ⟨hs, fun l nl => q _ _ (s2.trans (same_new nl)) (.tup (SqT.of upd_same) (L2.DpAll.dn f (DpAll.mono (same_new nl) hx)))⟩⟩
theorem z_allL {α : Type} {l : List α} {p : α → Bool} (h : Ez K te σ H (.list (l.map fun x => .bool (p x)))) : Ez K (tCB (rAll K) (tCons te tNil)) σ H (.bool (l.all p)) := z_cb (a_one h) fun vs H1 s dv Q q => by
  obtain ⟨x, rfl, dx⟩ := one_of dv
  obtain ⟨a, xs, rfl, hs, hx⟩ := dx.isLst
  have e : (l.map fun x => PyData.bool (p x)) = (l.map p).map PyData.bool := by rw [List.map_map]; rfl
  rw [e] at hx
  have e2 := hx.bl_eq
  subst e2
  refine ⟨a, _, rfl, hs, ?_⟩
  have e3 : (l.map p).all id = l.all p := by rw [List.all_map]; rfl
  rw [e3]
  exact q _ _ (Same.refl _) (.bl _)
/-- not in, in -/
theorem z_notin {ns : List Nat} {a : Nat} (ha : Ez K ta σ H (.int (a : Int))) (hb : Ez K tb σ H (.list (di ns))) : Ez K (tOp (rIn K true) ta tb) σ H (.bool (!decide (a ∈ ns))) := z_op ha hb fun x y H1 s dx dy Q q => by
  cases dx
  obtain ⟨p, xs, rfl, hs, hx⟩ := dy.isLst
  have e := vi_of hx
  subst e
  refine ⟨p, _, rfl, .inl hs, rfl, flatV_vi, ?_⟩
  rw [if_pos rfl, inV_vi]
  exact q _ _ (Same.refl _) (.bl _)
theorem z_inT {ns : List Nat} {a : Nat} (ha : Ez K ta σ H (.int (a : Int))) (hb : Ez K tb σ H (.tuple (di ns))) : Ez K (tOp (rIn K false) ta tb) σ H (.bool (decide (a ∈ ns))) := z_op ha hb fun x y H1 s dx dy Q q => by
  cases dx
  obtain ⟨p, xs, rfl, hs, hx⟩ := dy.isTup
  have e := vi_of hx
  subst e
  refine ⟨p, _, rfl, .inr hs, rfl, flatV_vi, ?_⟩
  rw [if_neg (by decide), inV_vi]
  exact q _ _ (Same.refl _) (.bl _)
theorem dp_vi {a : Addr} {ns : List Nat} (h : H a = some (.lst (vi ns))) : Dp K H (.ref a) (.list (di ns)) := .lst (SqL.of h) vi_di
/-- append to a list of casks -/
theorem s_appI {m : Nat} {a : Addr} {ns : List Nat} {x : Nat} (hm : σ[m]? = some (some (.ref a))) (h : H a = some (.lst (vi ns))) (hl : ns.length < 1000) (he : Ez K te σ H (.int (x : Int))) (k : ∀ H2, Same H H2 → D.nx σ (upd H2 a (.lst (vi (ns ++ [x]))))) : tDrop (tBM K "list" rAppend (tVar m) (tCons te tNil)) D σ H := by
  refine ⟨.ref a, hm, .inl ⟨rfl, _, .inl (.inl h)⟩, he H (Same.refl _) _ fun v H2 s2 dv => ?_⟩
  cases dv
  refine ⟨a, _, _, rfl, rfl, s2 _ _ h, Nat.lt_of_lt_of_le (by rw [vi_len]; exact hl) (by decide), ?_⟩
  have e : vi ns ++ [V.int (x : Int)] = vi (ns ++ [x]) := by unfold vi; rw [List.map_append]; rfl
  rw [e]
  exact k H2 s2
/-- over a new list of casks -/
theorem s_forI {j : Nat} {ns : List Nat} (h : En K te σ H (.list (di ns))) (Pv : Addr → Nat → L2.St → Hp → Prop) (h0 : ∀ g H2, Same H H2 → H g = none → H2 g = some (.lst (vi ns)) → Pv g 0 σ H2) (hG : ∀ g i σ' H', H g = none → Pv g i σ' H' → H' g = some (.lst (vi ns)))
    (step : ∀ g i σ' H' (x : Nat), H g = none → ns[i]? = some x → Pv g i σ' H' → tbo { nx := Pv g (i + 1), rt := D.rt, ct := Pv g (i + 1), bk := D.nx } (σ'.set j (some (.int (x : Int)))) H') (done : ∀ g σ' H', H g = none → Pv g ns.length σ' H' → D.nx σ' H') : tFor (iList K te) (gName j) tbo D σ H := by
  refine h H (Same.refl _) _ fun v H2 s2 dv => ?_
  cases dv with
  | lst hn hs ha =>
    rename_i g xs
    have e := vi_of ha.dp
    subst e
    refine ⟨g, rfl, ⟨_, SqL.of hs⟩, fun i m σ' H' => m = ns.length - i ∧ i ≤ ns.length ∧ Pv g i σ' H', ⟨ns.length, by simp, Nat.zero_le _, h0 g H2 s2 hn hs⟩, ?_⟩
    rintro i m σ' H' ⟨rfl, hi, I⟩
    have hg := hG g i σ' H' hn I
    by_cases hlt : i < ns.length
    · refine .inr ⟨⟨vi ns, .int ((ns[i] : Nat) : Int), SqL.of hg, by unfold vi; rw [List.getElem?_map, List.getElem?_eq_getElem hlt]; rfl⟩, Pv g (i + 1), fun σ2 H3 z => ⟨ns.length - (i + 1), by omega, rfl, hlt, z⟩, fun x H3 y => ?_⟩
      obtain ⟨e, y2⟩ := y
      have h1 := y2 _ (SqL.of hg)
      have h2 : (vi ns)[i]? = some (.int ((ns[i] : Nat) : Int)) := by unfold vi; rw [List.getElem?_map, List.getElem?_eq_getElem hlt]; rfl
      rw [h2] at h1
      cases h1
      subst e
      exact step g i σ' H3 _ hn (List.getElem?_eq_getElem hlt) I
    · have e : i = ns.length := by omega
      subst e
      exact .inl ⟨⟨vi ns, SqL.of hg, by rw [vi_len]; exact Nat.le_refl _⟩, done g σ' H' hn I⟩
theorem s_forIS {j : Nat} {ns : List Nat} (h : En K te σ H (.list (di ns))) (Pv : Addr → Nat → L2.St → Hp → Prop) (h0 : ∀ g H2, Same H H2 → H g = none → H2 g = some (.lst (vi ns)) → Pv g 0 σ H2) (hG : ∀ g i σ' H', H g = none → Pv g i σ' H' → H' g = some (.lst (vi ns)))
    (step : ∀ g i σ' H' (x : Nat), H g = none → ns[i]? = some x → Pv g i σ' H' → tbo { nx := Pv g (i + 1), rt := D.rt, ct := Pv g (i + 1), bk := rest D } (σ'.set j (some (.int (x : Int)))) H') (done : ∀ g σ' H', H g = none → Pv g ns.length σ' H' → rest D σ' H') : tSeq (tFor (iList K te) (gName j) tbo) rest D σ H :=
  s_forI (D := { D with nx := rest D }) h Pv h0 hG step done
end
/-- where a cask's wine goes -/
def outs (n : Nat) (A : Mx) (j : Nat) : List Nat := (rg n).filter fun i => decide (0 < A i j)
theorem mem_outs {n : Nat} {A : Mx} {i j : Nat} : i ∈ outs n A j ↔ i < n ∧ 0 < A i j := by
  unfold outs; rw [List.mem_filter, List.mem_range]
  exact ⟨fun h => ⟨h.1, of_decide_eq_true h.2⟩, fun h => ⟨h.1, decide_eq_true h.2⟩⟩
theorem num_pos' {q : Rat} : 0 < q.num ↔ 0 < q := by
  have h1 := Rat.num_nonneg (q := q)
  have h2 := Rat.num_eq_zero (q := q)
  constructor
  · intro h
    have a := h1.mp (by omega)
    rcases Rat.le_iff_lt_or_eq.mp a with b | b
    · exact b
    · have := h2.mpr b.symm; omega
  · intro h
    have a := h1.mpr (Rat.le_of_lt h)
    have b : q.num ≠ 0 := fun e => by
      have := h2.mp e
      rw [this] at h; exact absurd h (by decide)
    omega
abbrev s_goes_to : Stmt := topS 53
abbrev N_goes_to : List Str := ["table", "cask", "into"]
theorem sc_goes_to : FnScope N_goes_to ["table", "cask"] (defScope s_goes_to) := ⟨rfl, rfl, rfl, by decide +kernel, rfl, by decide +kernel, by decide +kernel⟩
theorem b_goes_to (T : Txt K mg) : Binds K (T.fd 35) ["table", "cask"] [] := (T.F 35 _ rfl).binds (ps := ["table", "cask"]) fun _ _ _ _ _ _ us hl => match us, hl with | [_, _], _ => rfl

def PGo : List PyData → PyData → Prop := fun ds r => ∃ (n : Nat) (A : Mx) (j : Nat), ds = [tabD n A, .int (j : Int)] ∧ n ≤ 5 ∧ j < n ∧ r = .list (di (outs n A j))
theorem ok_goes_to (T : Txt K mg) : FnOk P w K mg base CX0 1 (T.fa 35) (T.fd 35) ["table", "cask"] (spD K PGo) := by
  refine okD (T.F 35 _ rfl) sc_goes_to (fun ds r h => ?_) (fun cdv A0 outer s H vs Q E ds r hr hv hp q => ?_)
  · obtain ⟨_, _, _, rfl, _⟩ := h; rfl
  · obtain ⟨n, A, j, rfl, h5, hj, rfl⟩ := hp
    obtain ⟨u, v, rfl, du, dv⟩ := two_of hv
    cases dv
    refine ⟨_, (pss_one (ps_ret (pe_lc (own := [("into", 2)])  rfl sc_goes_to.nd (pi_range1 (by rfl) (T.n "range") (pa_cons (pe_callB (call_lenK K) (by rfl) (T.n "len") PySem.boot_len (pa_cons (pv 0) pa_nil)) pa_nil)) (blkOk_by (N := N_goes_to) (sc := defScope s_goes_to) (by decide +kernel)) (fun _ _ _ _ _ => (pg_name (i := 2) sc_goes_to.nd rfl (Or.inl rfl))) (fun _ _ _ _ _ => (pts_one (pt_cmpR op_gt (pe_ix (ix_seqK K) (pe_ix (ix_seqK K) (pe_ix (ix_seqK K) (pv 0) (pv 2) (fun _ _ => rfl)) (pv 1) (fun _ _ => rfl)) pe_int (fun _ _ => rfl)) pe_int (nomark _)))) (fun _ _ _ _ _ => (pv 2))))), ?_⟩
    have hl := p_lenT (K := K) (σ := start N_goes_to [u, .int j]) (p_var (i := 0) rfl du)
    rw [tab_len] at hl
    refine s_ret (K := K) (d := .list (di (outs n A j))) ?_ q
    refine n_lc (p := fun i => decide (0 < A i j)) (gd := fun i => .int (i : Int)) (src_r1 (ap_one hl) (by omega)).g (by omega) (fun i hi x H1 s1 dx => ?_) (fun i hi _ x H1 s1 dx => ?_)
    · cases dx
      have e : decide (0 < A i j) = decide (0 < (A i j).num) := by
        by_cases h : 0 < A i j
        · rw [decide_eq_true h, decide_eq_true (num_pos'.mpr h)]
        · rw [decide_eq_false h, decide_eq_false fun z => h (num_pos'.mp z)]
      rw [e]
      refine t_val (z_cmp (p := fun i j => decide (j < i)) (z_num (z_rowT (i := j) (z_matT (i := i) (z_var (i := 0) rfl (L2.Dp.mono s1 du)) (z_var (i := 2) rfl (.int _)) hi) (z_var (i := 1) rfl (.int _)) hj)) z_int)
    · cases dx
      exact (z_var (i := 2) rfl (.int _)).en
theorem walk_in {n : Nat} {A : Mx} {S : Nat → Prop} (h : ∀ j, S j → ∀ i, i < n → 0 < A i j → S i) {m j i : Nat} (hw : Wk n A m j i) : S j → S i := by
  induction hw with
  | nil _ => exact id
  | cons hj hp hr ih => exact fun s => ih (h _ s _ hr.lt1 hp)
abbrev s_reached_from : Stmt := topS 54
abbrev N_reached_from : List Str := ["table", "cask", "found", "at", "into"]
theorem sc_reached_from : FnScope N_reached_from ["table", "cask"] (defScope s_reached_from) := ⟨rfl, rfl, rfl, by decide +kernel, rfl, by decide +kernel, by decide +kernel⟩
theorem b_reached_from (T : Txt K mg) : Binds K (T.fd 36) ["table", "cask"] [] := (T.F 36 _ rfl).binds (ps := ["table", "cask"]) fun _ _ _ _ _ _ us hl => match us, hl with | [_, _], _ => rfl

theorem nodup_len : ∀ {n : Nat} {l : List Nat}, l.Nodup → (∀ i ∈ l, i < n) → l.length ≤ n
  | 0, [], _, _ => Nat.le_refl _
  | 0, a :: l, _, h => absurd (h a List.mem_cons_self) (Nat.not_lt_zero _)
  | n + 1, l, nd, h => by
    have h1 : (l.erase n).length ≤ n := nodup_len (nd.erase n) fun i hi => by
      have h2 := h i (List.mem_of_mem_erase hi)
      have h3 : i ≠ n := fun e => by subst e; exact (List.Nodup.not_mem_erase nd) hi
      omega
    rw [List.length_erase] at h1
    split at h1 <;> omega
def PRf : List PyData → (PyData → Prop) → Prop := fun ds R => ∃ (n : Nat) (A : Mx) (c : Nat), ds = [tabD n A, .int (c : Int)] ∧ n ≤ 5 ∧ c < n ∧ R = fun r => ∃ ns : List Nat, r = .list (di ns) ∧ ns.length < 64 ∧ ns.Perm (rch n A c)
theorem ok_reached_from (T : Txt K mg) : FnOk P w K mg base CX0 2 (T.fa 36) (T.fd 36) ["table", "cask"] (spR K PRf) := by
  refine okR (T.F 36 _ rfl) sc_reached_from (fun ds r h => ?_) (fun cdv A0 outer s H vs Q E ds R hr hv hp q => ?_)
  · obtain ⟨_, _, _, rfl, _⟩ := h; rfl
  · obtain ⟨n, A, c, rfl, h5, hc, rfl⟩ := hp
    obtain ⟨u, v, rfl, du, dv⟩ := two_of hv
    cases dv
    refine ⟨_, (pss_cons (ps_set (i := 2) sc_reached_from.nd rfl (Or.inl rfl) (pe_lst (pa_cons (pv 1) pa_nil)))
      (pss_cons (ps_set (i := 3) sc_reached_from.nd rfl (Or.inl rfl) pe_int)
      (pss_cons (ps_while PassesOwn.never (pt_cmpR op_lt (pv 3) (pe_callB (call_lenK K) (by rfl) (T.n "len") PySem.boot_len (pa_cons (pv 2) pa_nil)) (nomark _))
       (pss_cons (ps_for PassesOwn.never rfl (pi_listK K (pe_call (ok_goes_to T) (hr.mono (by decide)) (by rfl) (T.g 35 _ rfl) (T.F 35 _ rfl).kp (b_goes_to T) .nil pass0 (pa_cons (pv 0) (pa_cons (pe_ix (ix_seqK K) (pv 2) (pv 3) (fun _ _ => rfl)) pa_nil)))) (pg_name (i := 4) sc_reached_from.nd rfl (Or.inl rfl))
        (pss_one (ps_if (pt_cmpR (op_notInK K) (pv 4) (pv 2) (by rfl))
         (pss_one (ps_expr (pe_appK K (pv 2) (pa_cons (pv 4) pa_nil))))
         pss_nil)))
       (pss_one (ps_set (i := 3) sc_reached_from.nd rfl (Or.inl rfl) (pe_op op_add (pv 3) pe_int)))))
      (pss_one (ps_ret (pv 2)))))), ?_⟩
    -- found = [cask]
    refine ⟨.int (c : Int), rfl, by show 1 ≤ sizeLine; decide, fun fa nf => ?_⟩
    have s0 := same_new (o := .lst [.int (c : Int)]) nf
    refine s_set (K := K) z_int fun v1 H1 s1 d1 => ?_
    cases d1
    refine s_while (fun m σ' H' => ∃ (ns : List Nat) (k : Nat) (y4 : Option V), σ' = [some u, some (.int c), some (.ref fa), some (.int (k : Int)), y4] ∧ Same H H' ∧ H' fa = some (.lst (vi ns)) ∧ ns.Nodup ∧ c ∈ ns ∧ (∀ i ∈ ns, Rch n A c i) ∧ k ≤ ns.length ∧ (∀ t j, t < k → ns[t]? = some j → ∀ i, i < n → 0 < A i j → i ∈ ns) ∧ m = n - k)
      (m0 := n) ⟨[c], 0, none, rfl, s0.trans s1, s1 _ _ upd_same, by simp, by simp, fun i hi => by simp at hi; subst hi; exact Rch.refl hc, Nat.zero_le _, fun t j h => absurd h (Nat.not_lt_zero _), rfl⟩ fun m σ' H' p => ?_
    obtain ⟨ns, k, y4, rfl, s', hf, nd, hcm, hall, hk, hcl, rfl⟩ := p
    have hltn : ∀ i ∈ ns, i < n := fun i hi => (hall i hi).choose_spec.lt2
    have hlen := nodup_len nd hltn
    refine ⟨decide ((k : Int) < (ns.length : Int)), t_val (z_cmp (K := K) (p := fun i j => decide (i < j)) (z_var (i := 3) rfl (.int _)) ?_), fun hb H2 s2 => ?_, fun hb H2 s2 => ?_⟩
    · have h := z_lenL (K := K) (z_var (σ := [some u, some (.int c), some (.ref fa), some (.int (k : Int)), y4]) (i := 2) rfl (dp_vi hf))
      rw [di_len] at h
      exact h
    · have hb : k < ns.length := by have := of_decide_eq_true hb; omega
      obtain ⟨j, hj⟩ : ∃ j, ns[k]? = some j := ⟨_, List.getElem?_eq_getElem hb⟩
      have hjm : j ∈ ns := List.mem_of_getElem? hj
      have hjn := hltn j hjm
      have hf2 := s2 _ _ hf
      have hdi : (di ns)[k]? = some (.int (j : Int)) := by unfold di; rw [List.getElem?_map, hj]; rfl
      refine s_forIS (K := K) (ns := outs n A j) (n_call (a_cons (z_var (i := 0) rfl (L2.Dp.mono (s'.trans s2) du)) (a_one (z_ixL (i := k) (z_var (i := 2) rfl (dp_vi hf2)) (z_var (i := 3) rfl (.int _)) hdi))) ⟨n, A, j, rfl, h5, hjn, rfl⟩)
        (fun g i σ' H' => ∃ (ns' : List Nat) (y4 : Option V), σ' = [some u, some (.int c), some (.ref fa), some (.int (k : Int)), y4] ∧ Same H H' ∧ H' fa = some (.lst (vi ns')) ∧ H' g = some (.lst (vi (outs n A j))) ∧ ns'.Nodup ∧ c ∈ ns' ∧ (∀ i ∈ ns', Rch n A c i) ∧ ns <+: ns' ∧ (∀ t i', t < i → (outs n A j)[t]? = some i' → i' ∈ ns'))
        (fun g H3 s3 hn hg => ⟨ns, y4, rfl, (s'.trans s2).trans s3, s3 _ _ hf2, hg, nd, hcm, hall, List.prefix_refl _, fun t i' h => absurd h (Nat.not_lt_zero _)⟩) (fun g i σ' H' hn p => ?_) (fun g i σ' H' x hn hx p => ?_) (fun g σ' H' hn p => ?_)
      · obtain ⟨_, _, _, _, _, h, _⟩ := p; exact h
      · obtain ⟨ns', y4, rfl, s5, hf5, hg5, nd5, hc5, hall5, hpre, hin5⟩ := p
        have hxm := mem_outs.mp (List.mem_of_getElem? hx)
        have hgf : g ≠ fa := fun e => by rw [e, hf2] at hn; cases hn
        refine s_if1 (b := !decide (x ∈ ns')) (t_val (z_notin (K := K) (z_var (i := 4) rfl (.int _)) (z_var (i := 2) rfl (dp_vi hf5)))) (fun hb6 H6 s6 => ?_) (fun hb6 H6 s6 => ?_)
        · have hxn : x ∉ ns' := by
            intro e
            rw [decide_eq_true e] at hb6; cases hb6
          have hl5 := nodup_len nd5 fun i hi => (hall5 i hi).choose_spec.lt2
          refine s_appI (K := K) (m := 2) rfl (s6 _ _ hf5) (by omega) (z_var (i := 4) rfl (.int _)) fun H7 s7 => ?_
          have s67 := s6.trans s7
          refine ⟨ns' ++ [x], _, rfl, fun b o z => ?_, upd_same, ?_, ?_, List.mem_append_left _ hc5, fun i hi => ?_, hpre.trans (List.prefix_append _ _), fun t i' ht hi' => ?_⟩
          · rw [upd_ne (ne_of_none z nf)]; exact s67 _ _ (s5 _ _ z)
          · rw [upd_ne hgf]; exact s67 _ _ hg5
          · exact List.nodup_append.mpr ⟨nd5, by simp, fun a ha b hb e => by simp at hb; subst hb; subst e; exact hxn ha⟩
          · rcases List.mem_append.mp hi with h | h
            · exact hall5 i h
            · simp at h
              subst h
              exact (hall j hjm).trans (Rch.one hjn hxm.1 hxm.2)
          · by_cases e : t = i
            · subst e
              rw [hx] at hi'
              cases hi'
              exact List.mem_append_right _ (by simp)
            · exact List.mem_append_left _ (hin5 t i' (by omega) hi')
        · have hxn : x ∈ ns' := by
            by_cases e : x ∈ ns'
            · exact e
            · rw [decide_eq_false e] at hb6; cases hb6
          refine ⟨ns', _, rfl, s5.trans s6, s6 _ _ hf5, s6 _ _ hg5, nd5, hc5, hall5, hpre, fun t i' ht hi' => ?_⟩
          by_cases e : t = i
          · subst e
            rw [hx] at hi'
            cases hi'
            exact hxn
          · exact hin5 t i' (by omega) hi'
      · obtain ⟨ns', y4, rfl, s5, hf5, hg5, nd5, hc5, hall5, hpre, hin5⟩ := p
        refine s_set1 (K := K) (z_add (z_var (i := 3) rfl (.int _)) z_int) fun v6 H6 s6 d6 => ?_
        cases d6
        have hl5 := nodup_len nd5 fun i hi => (hall5 i hi).choose_spec.lt2
        have hple := hpre.length_le
        refine ⟨n - (k + 1), by omega, ns', k + 1, y4, ?_, s5.trans s6, s6 _ _ hf5, nd5, hc5, hall5, by omega, fun t j' ht hj' i hi hp => ?_, rfl⟩
        · rw [Int.natCast_add]; rfl
        · have hj2 : ns[t]? = some j' := by
            obtain ⟨l, rfl⟩ := hpre
            rw [List.getElem?_append_left (by omega)] at hj'
            exact hj'
          by_cases e : t = k
          · subst e
            rw [hj] at hj2
            cases hj2
            obtain ⟨t, ht⟩ := List.getElem?_of_mem (mem_outs.mpr ⟨hi, hp⟩)
            exact hin5 t i (List.getElem?_eq_some_iff.mp ht).1 ht
          · exact hpre.subset (hcl t j' (by omega) hj2 i hi hp)
    · have hb : k = ns.length := by have := of_decide_eq_false hb; omega
      refine ⟨.ref fa, rfl, q _ ⟨ns, rfl, by omega, ?_⟩ _ _ (s'.trans s2) (.lst nf (s2 _ _ hf) vi_dn)⟩
      refine (List.perm_ext_iff_of_nodup nd rch_nodup).mpr fun i => ⟨fun hi => mem_rch.mpr (hall i hi), fun hi => ?_⟩
      obtain ⟨m, hw⟩ := mem_rch.mp hi
      have hclo : ∀ j ∈ ns, ∀ i, i < n → 0 < A i j → i ∈ ns := fun j hj i hi hp => by
        obtain ⟨t, ht⟩ := List.getElem?_of_mem hj
        exact hcl t j (by rw [hb]; exact (List.getElem?_eq_some_iff.mp ht).1) ht i hi hp
      exact walk_in (S := fun i => i ∈ ns) hclo hw hcm
end
end Ck
end

section
set_option Elab.async false
set_option linter.all false
set_option maxRecDepth 100000
set_option maxHeartbeats 4000000
/-! rings. -/
namespace Ck
open PySem PySem.Spec PyProof.Rows L2
def ringD (r : List Nat) : PyData := .tuple (di r)
theorem flat_ring {r : List Nat} : flatD (ringD r) = true := flat_di
def rgsD (l : List (List Nat)) : PyData := .list (l.map ringD)
theorem rch_sorted {n : Nat} {A : Mx} {c : Nat} : (rch n A c).Pairwise (· < ·) := List.Pairwise.filter _ List.pairwise_lt_range
theorem eqv_one {q : Rat} : PyData.eqv (frD q) (.tuple [.int 1, .int 1]) = decide (q = 1) := by
  have h : (PyData.tuple [.int 1, .int 1]) = frD 1 := rfl
  rw [h, eqv_fr]
theorem di_getD {l : List Nat} {i : Nat} (h : i < l.length) : (di l).getD i .none = .int ((l.getD i 0 : Nat) : Int) := by
  unfold di
  rw [List.getD_eq_getElem?_getD, List.getElem?_map, List.getElem?_eq_getElem h, List.getD_eq_getElem?_getD, List.getElem?_eq_getElem h]; rfl
theorem getD_mem {l : List Nat} {i : Nat} (h : i < l.length) : l.getD i 0 ∈ l := by
  rw [List.getD_eq_getElem?_getD, List.getElem?_eq_getElem h]; exact List.getElem_mem h
open Classical in
theorem isHead_iff {n : Nat} {A : Mx} {c : Nat} : isHead n A c = true ↔ (rch n A c).head? = some c ∧ Ringy n A c := by
  unfold isHead; exact decide_eq_true_iff
theorem isHead_no {n : Nat} {A : Mx} {c : Nat} (h : ¬ ((rch n A c).head? = some c ∧ Ringy n A c)) : isHead n A c = false := by
  cases e : isHead n A c with
  | false => rfl
  | true => exact absurd (isHead_iff.mp e) h
section
variable {P : Program} {w : World} {K : Fg} {mg : Str → Option Value} {base : Heap}
/-- [f(one) for one in casks] -/
theorem n_lcI {σ : L2.St} {H : Hp} {te : TE} {wi : TI} {j : Nat} {vs : List Nat} {l : List Nat} {gd : Nat → PyData} (hs : SrcG K wi σ H (di l).length fun i => (di l).getD i .none) (hl : l.length ≤ 1000)
    (he : ∀ c, c ∈ l → ∀ H1, Same H H1 → En K te ((wipe σ vs).set j (some (.int (c : Int)))) H1 (gd c))
    (hw : ∀ x : V, wipe ((wipe σ vs).set j (some x)) vs = wipe σ vs := by intro _; rfl) : En K (tLc wi (gName j) tYes te vs) σ H (.list (l.map gd)) := by
  have h := n_lcA (K := K) (te := te) (gd := fun i => gd (l.getD i 0)) hs (by rw [di_len]; exact hl) (fun i hi x H1 s1 dx => by
    rw [di_len] at hi
    rw [di_getD hi] at dx
    cases dx
    exact he _ (getD_mem hi) H1 s1) hw
  rw [di_len] at h
  rw [map_tab 0]
  exact h
/-- both ways of a test come together -/
theorem s_ifX {σ : L2.St} {H : Hp} {tt : TT} {t1 t2 rest : TS} {D : Ends} {b : Bool} (J : L2.St → Hp → Prop) (h : Tz tt σ H b) (k1 : b = true → ∀ H', Same H H' → ∀ N : L2.St → Hp → Prop, (∀ σ' H', J σ' H' → N σ' H') → t1 { D with nx := N } σ H') (k2 : b = false → ∀ H', Same H H' → ∀ N : L2.St → Hp → Prop, (∀ σ' H', J σ' H' → N σ' H') → t2 { D with nx := N } σ H')
    (k : ∀ σ' H', J σ' H' → rest D σ' H') : tSeq (tIfS tt t1 t2) rest D σ H := h H (Same.refl _) _ fun H2 s2 => by
  cases b with
  | true => exact k1 rfl H2 s2 _ k
  | false => exact k2 rfl H2 s2 _ k
/-- over what is made anew -/
theorem s_forG {σ : L2.St} {H : Hp} {wi : TI} {D : Ends} {rest tbo : TS} {j n : Nat} {it : Nat → PyData} (Pv : Hp → Nat → L2.St → Hp → Prop) (hs : ∀ R : It → Hp → Prop, (∀ J H2, Same H H2 → Src1At K J H2 n it → R J H2) → wi σ H R) (h0 : ∀ H2, Same H H2 → Pv H2 0 σ H2) (hG : ∀ H2 i σ' H', Pv H2 i σ' H' → Same H2 H')
    (step : ∀ H2 i σ' H', Same H H2 → i < n → Pv H2 i σ' H' → ∀ x, Dp K H2 x (it i) → tbo { nx := Pv H2 (i + 1), rt := D.rt, ct := Pv H2 (i + 1), bk := rest D } (σ'.set j (some x)) H') (done : ∀ H2 σ' H', Same H H2 → Pv H2 n σ' H' → rest D σ' H') : tSeq (tFor wi (gName j) tbo) rest D σ H := by
  refine hs _ fun J H2 s2 sa => ?_
  refine ⟨fun i m σ' H' => m = n - i ∧ i ≤ n ∧ Pv H2 i σ' H', ⟨n, by simp, Nat.zero_le _, h0 H2 s2⟩, ?_⟩
  rintro i m σ' H' ⟨rfl, hi, I⟩
  have g := hG H2 i σ' H' I
  by_cases hlt : i < n
  · refine .inr ⟨sa.go H' i g hlt, Pv H2 (i + 1), fun σ2 H2 z => ⟨n - (i + 1), by omega, rfl, hlt, z⟩, fun x H3 y => ?_⟩
    obtain ⟨e, dx⟩ := sa.yld H' i x H3 g hlt y
    subst e
    exact step H2 i σ' H3 s2 hlt I x dx
  · have e : i = n := by omega
    subst e
    exact .inl ⟨sa.stop H' g, done H2 σ' H' s2 I⟩
abbrev s_rings : Stmt := topS 55
abbrev N_rings : List Str := ["table", "reached", "made", "cask", "ring", "one"]
theorem sc_rings : FnScope N_rings ["table"] (defScope s_rings) := ⟨rfl, rfl, rfl, by decide +kernel, rfl, by decide +kernel, by decide +kernel⟩
theorem b_rings (T : Txt K mg) : Binds K (T.fd 37) ["table"] [] := (T.F 37 _ rfl).binds (ps := ["table"]) fun _ _ _ _ _ _ us hl => match us, hl with | [_], _ => rfl

def PRgs : List PyData → PyData → Prop := fun ds r => ∃ (n : Nat) (A : Mx), ds = [tabD n A] ∧ Tb n A ∧ r = rgsD (rgs n A)
theorem flats_map {α : Type} {l : List α} {f : α → PyData} (h : ∀ x, flatD (f x) = true) : flatDs (l.map f) = true := by
  induction l with
  | nil => rfl
  | cons a l ih => show (flatD (f a) && flatDs (l.map f)) = true; rw [h, ih]; rfl
theorem ok_rings (T : Txt K mg) : FnOk P w K mg base CX0 8 (T.fa 37) (T.fd 37) ["table"] (spD K PRgs) := by
  refine okD (T.F 37 _ rfl) sc_rings (fun ds r h => ?_) (fun cdv A0 outer s H vs Q E ds r hr hv hp q => ?_)
  · obtain ⟨_, _, rfl, _⟩ := h; rfl
  · obtain ⟨n, A, rfl, t, rfl⟩ := hp
    obtain ⟨u, rfl, du⟩ := one_of hv
    refine ⟨_, (pss_cons (ps_expr (pe_call (ok_need_table T) (hr.mono (by decide)) (by rfl) (T.g 25 _ rfl) (T.F 25 _ rfl).kp (b_need_table T) .nil pass0 (pa_cons (pv 0) pa_nil)))
      (pss_cons (ps_set (i := 1) sc_rings.nd rfl (Or.inr rfl) (pe_lc (own := [("cask", 3)])  rfl sc_rings.nd (pi_range1 (by rfl) (T.n "range") (pa_cons (pe_callB (call_lenK K) (by rfl) (T.n "len") PySem.boot_len (pa_cons (pv 0) pa_nil)) pa_nil)) (blkOk_by (N := N_rings) (sc := defScope s_rings) (by decide +kernel)) (fun _ _ _ _ _ => (pg_name (i := 3) sc_rings.nd rfl (Or.inl rfl))) (fun _ _ _ _ _ => pts_nil) (fun _ _ _ _ _ => (pe_callB (cr_sortedK K) (by rfl) (T.n "sorted") (by decide +kernel) (pa_cons (pe_call (ok_reached_from T) (hr.mono (by decide)) (by rfl) (T.g 36 _ rfl) (T.F 36 _ rfl).kp (b_reached_from T) .nil pass0 (pa_cons (pv 0) (pa_cons (pv 3) pa_nil))) pa_nil)))))
      (pss_cons (ps_set (i := 2) sc_rings.nd rfl (Or.inl rfl) (pe_lst pa_nil))
      (pss_cons (ps_for PassesOwn.never rfl (pi_range1 (by rfl) (T.n "range") (pa_cons (pe_callB (call_lenK K) (by rfl) (T.n "len") PySem.boot_len (pa_cons (pv 0) pa_nil)) pa_nil)) (pg_name (i := 3) sc_rings.nd rfl (Or.inl rfl))
       (pss_cons (ps_set (i := 4) sc_rings.nd rfl (Or.inr rfl) (pe_ix (ix_seqK K) (pv 1) (pv 3) (fun _ _ => rfl)))
       (pss_one (ps_if (PW.pt (pw_and (pt_cmpR (op_eqK K hr.units) (pe_ix (ix_seqK K) (pv 4) pe_int (fun _ _ => rfl)) (pv 3) (nomark _)) (pw_and1 (pt_val (pe_callB (cr_allK K rfl) (by rfl) (T.n "all") (by decide +kernel) (pa_cons (pe_lc (own := [("one", 5)])  rfl sc_rings.nd (pi_listK K (pv 4)) (blkOk_by (N := N_rings) (sc := defScope s_rings) (by decide +kernel)) (fun _ _ _ _ _ => (pg_name (i := 5) sc_rings.nd rfl (Or.inl rfl))) (fun _ _ _ _ _ => pts_nil) (fun _ _ _ _ _ => (pe_cmpR (op_eqK K hr.units) (pe_ix (ix_seqK K) (pv 1) (pv 5) (fun _ _ => rfl)) (pv 4) (nomark _)))) pa_nil))))))
        (pss_one (ps_if (pt_val (pe_callB (cr_allK K rfl) (by rfl) (T.n "all") (by decide +kernel) (pa_cons (pe_lc (own := [("one", 5)])  rfl sc_rings.nd (pi_listK K (pv 4)) (blkOk_by (N := N_rings) (sc := defScope s_rings) (by decide +kernel)) (fun _ _ _ _ _ => (pg_name (i := 5) sc_rings.nd rfl (Or.inl rfl))) (fun _ _ _ _ _ => pts_nil) (fun _ _ _ _ _ => (pe_cmpR (op_eqK K hr.units) (pe_call (ok_kept_of T) (hr.mono (by decide)) (by rfl) (T.g 24 _ rfl) (T.F 24 _ rfl).kp (b_kept_of T) .nil pass0 (pa_cons (pv 0) (pa_cons (pv 5) pa_nil))) (pe_tup (pa_cons pe_int (pa_cons pe_int pa_nil))) (nomark _)))) pa_nil)))
         (pss_one (ps_expr (pe_appK K (pv 2) (pa_cons (pe_callTy (call_tupleK K) (by rfl) (T.n "tuple") (by decide +kernel) (pa_cons (pv 4) pa_nil)) pa_nil))))
         pss_nil))
        pss_nil))))
      (pss_one (ps_ret (pv 2))))))), ?_⟩
    have h5 := t.n5
    refine s_expr (z_call (a_one (z_var (i := 0) rfl du)) ⟨n, A, rfl, t, rfl⟩) fun H1 s1 => ?_
    have du1 := L2.Dp.mono s1 du
    have rlen : ∀ c, (rch n A c).length ≤ n := fun c => nodup_len rch_nodup fun i hi => rch_lt hi
    -- reached
    refine s_set (K := K) (d := .list (tab n fun c => .list (di (rch n A c)))) (En.ez ?_) fun x1 H2 s2 d2 => ?_
    · have hl := p_lenT (K := K) (σ := start N_rings [u]) (p_var (i := 0) rfl du1)
      rw [tab_len] at hl
      refine n_lcA (src_r1 (ap_one hl) (by omega)).g (by omega) fun c hc z H2 s2 dz => ?_
      cases dz
      exact n_sortR (er_call (a_cons (z_var (i := 0) rfl (L2.Dp.mono s2 du1)) (a_one (z_var (i := 3) rfl (.int _)))) ⟨n, A, c, rfl, h5, hc, rfl⟩) (fun r h => h) rch_sorted
    have s12 := s1.trans s2
    refine s_setnil fun ma nm => ?_
    have du2 := L2.Dp.mono s2 du1
    have hl := p_lenT (K := K) (σ := [some u, some x1, some (.ref ma), none, none, none]) (p_var (i := 0) rfl (L2.Dp.mono (same_new (o := .lst []) nm) du2))
    rw [tab_len] at hl
    refine s_forHS (K := K) (Hb := H2) (fun i σ' H' => ∃ y3 y4 : Option V, σ' = [some u, some x1, some (.ref ma), y3, y4, none] ∧ LcInv K H2 ma (((rg i).filter (isHead n A)).map fun c => ringD (rch n A c)) H') (srcH_r1 (ap_one hl) (by omega)) ⟨none, none, rfl, LcF.start nm⟩ (fun i σ' H' p => ?_) (fun c σ' H' hc p x dx => ?_) (fun σ' H' p => ?_)
    · obtain ⟨_, _, _, I⟩ := p; exact I.same
    · obtain ⟨y3, y4, rfl, I⟩ := p
      cases dx
      have d3 := L2.Dp.mono I.same d2
      refine s_set (K := K) (d := .list (di (rch n A c))) (z_ixL (i := c) (z_var (i := 1) rfl d3) (z_var (i := 3) rfl (.int _)) (tab_at hc)) fun x4 H4 s4 d4 => ?_
      have I4 := LcF.same' I s4
      have d34 := L2.Dp.mono s4 d3
      have du4 := L2.Dp.mono I4.same du2
      have hcm : c ∈ rch n A c := mem_rch.mpr (Rch.refl hc)
      obtain ⟨c0, l0, e0⟩ : ∃ c0 l0, rch n A c = c0 :: l0 := by
        cases e : rch n A c with
        | nil => rw [e] at hcm; cases hcm
        | cons a l => exact ⟨a, l, rfl⟩
      have hc0 : (di (rch n A c))[0]? = some (.int (c0 : Int)) := by rw [e0]; rfl
      have rl := rlen c
      have succ_no : isHead n A c = false → ((rg (c + 1)).filter (isHead n A)) = (rg c).filter (isHead n A) := fun h => by
        unfold rg; rw [List.range_succ, List.filter_append, List.filter_cons_of_neg (by rw [h]; exact Bool.false_ne_true)]; simp
      have succ_yes : isHead n A c = true → ((rg (c + 1)).filter (isHead n A)) = (rg c).filter (isHead n A) ++ [c] := fun h => by
        unfold rg; rw [List.range_succ, List.filter_append, List.filter_cons_of_pos h]; rfl
      have zall : ∀ {H'}, Same H4 H' → Ez K (tCB (rAll K) (tCons (tLc (iList K (tVar 4)) (gName 5) tYes (tOp (rEqD K) (tOp (rIx K) (tVar 1) (tVar 5)) (tVar 4)) [5]) tNil)) [some u, some x1, some (.ref ma), some (.int (c : Int)), some x4, none] H' (.bool ((rch n A c).all fun o => decide (rch n A o = rch n A c))) := fun s => by
        refine z_allL (En.ez (n_lcI (src_list (p_var (i := 4) rfl (L2.Dp.mono s d4))).g (by omega) fun o ho H5 s5 => ?_))
        have h := z_eqD (K := K) (z_ixL (σ := [some u, some x1, some (.ref ma), some (.int (c : Int)), some x4, some (.int (o : Int))]) (i := o) (z_var (i := 1) rfl (L2.Dp.mono (s.trans s5) d34)) (z_var (i := 5) rfl (.int _)) (tab_at (rch_lt ho))) (z_var (i := 4) rfl (L2.Dp.mono (s.trans s5) d4)) shp_di.ok shp_di.ok
        rw [eqv_di] at h
        exact h.en
      refine s_if1 (b := decide ((c0 : Int) = (c : Int)) && ((rch n A c).all fun o => decide (rch n A o = rch n A c))) (t_and (t_val (z_eqI (K := K) (z_ixL (i := 0) (z_var (i := 4) rfl d4) z_int hc0) (z_var (i := 3) rfl (.int _)))) fun _ => t_val (zall (Same.refl _))) (fun hb H5 s5 => ?_) (fun hb H5 s5 => ?_)
      · obtain ⟨hb1, hb2⟩ := Bool.and_eq_true_iff.mp hb
        have hb1 : c0 = c := by have := of_decide_eq_true hb1; omega
        have hb2 : ∀ o ∈ rch n A c, rch n A o = rch n A c := fun o ho => of_decide_eq_true (List.all_eq_true.mp hb2 o ho)
        have I5 := LcF.same' I4 s5
        refine s_if1 (b := (rch n A c).all fun o => decide (col n A o = 1)) (t_val (K := K) (z_allL (En.ez (n_lcI (src_list (p_var (i := 4) rfl (L2.Dp.mono s5 d4))).g (by omega) fun o ho H6 s6 => ?_)))) (fun hb3 H6 s6 => ?_) (fun hb3 H6 s6 => ?_)
        · have h := z_eqD (K := K) (z_call (tr := tCons (tVar 0) (tCons (tVar 5) tNil)) (E := E0) (σ := [some u, some x1, some (.ref ma), some (.int (c : Int)), some x4, some (.int (o : Int))]) (P := fun ds r => ∃ (n : Nat) (A : Mx) (j : Nat), ds = [tabD n A, .int (j : Int)] ∧ Tb n A ∧ j < n ∧ r = frD (col n A j)) (a_cons (z_var (i := 0) rfl (L2.Dp.mono (s5.trans s6) du4)) (a_one (z_var (i := 5) rfl (.int _)))) ⟨n, A, o, rfl, t, rch_lt ho, rfl⟩) (z_tup (a_cons (z_int (i := 1)) (a_one (z_int (i := 1)))))
          rw [eqv_one] at h
          exact h.en
        · have hb3 : ∀ o ∈ rch n A c, col n A o = 1 := fun o ho => of_decide_eq_true (List.all_eq_true.mp hb3 o ho)
          have hh : isHead n A c = true := isHead_iff.mpr ⟨by rw [e0, hb1]; rfl, fun o ho => ⟨hb2 o ho, hb3 o ho⟩⟩
          have I6 := LcF.same' I5 s6
          have hfl : ((((rg c).filter (isHead n A)).map fun c => ringD (rch n A c))).length ≤ 1000 := by
            rw [List.length_map]
            have := List.length_filter_le (isHead n A) (rg c)
            rw [List.length_range] at this; omega
          refine s_app (K := K) (m := 2) (Hb := H2) rfl nm I6 hfl (d := ringD (rch n A c)) (n_tupleF (z_var (i := 4) rfl (L2.Dp.mono (s5.trans s6) d4)) flat_di) fun H7 I7 sx => ⟨_, _, rfl, ?_⟩
          rw [succ_yes hh, List.map_append]
          exact I7
        · have hh : isHead n A c = false := isHead_no fun ⟨_, h2⟩ => by
            have : ((rch n A c).all fun o => decide (col n A o = 1)) = true := List.all_eq_true.mpr fun o ho => decide_eq_true (h2 o ho).2
            rw [hb3] at this; cases this
          refine ⟨_, _, rfl, ?_⟩
          rw [succ_no hh]
          exact LcF.same' I5 s6
      · have hh : isHead n A c = false := isHead_no fun ⟨h1, h2⟩ => by
          rw [e0] at h1
          have h1 : c0 = c := Option.some.inj h1
          have h3 : ((rch n A c).all fun o => decide (rch n A o = rch n A c)) = true := List.all_eq_true.mpr fun o ho => decide_eq_true (h2 o ho).1
          rw [decide_eq_true (show (c0 : Int) = c by omega), h3] at hb; cases hb
        refine ⟨_, _, rfl, ?_⟩
        rw [succ_no hh]
        exact LcF.same' I4 s5
    · obtain ⟨y3, y4, rfl, I⟩ := p
      refine ⟨.ref ma, rfl, q _ _ (s12.trans I.same) ?_⟩
      have e : rgsD (rgs n A) = .list (((rg n).filter (isHead n A)).map fun c => ringD (rch n A c)) := by
        unfold rgsD rgs; rw [List.map_map]; rfl
      rw [e]
      exact Dn.anti s12 (LcF.dn nm I)
end
end Ck
end

section
set_option Elab.async false
set_option linter.all false
set_option maxRecDepth 100000
set_option maxHeartbeats 4000000
/-! period_of_ring, period. -/
namespace Ck
open PySem PySem.Spec PyProof.Rows L2
/-- a dict of casks -/
def dk (ns : List Nat) (f : Nat → Nat) : List (Key × V) := ns.map fun i => (Sum.inl ((i : Nat) : Int), V.int ((f i : Nat) : Int))
theorem dk_len {ns : List Nat} {f : Nat → Nat} : (dk ns f).length = ns.length := by unfold dk; rw [List.length_map]
theorem valV_dk {ns : List Nat} {f : Nat → Nat} {a : Nat} : valV (dk ns f) (Sum.inl (a : Int)) = if a ∈ ns then some (.int ((f a : Nat) : Int)) else none := by
  unfold valV dk
  induction ns with
  | nil => rfl
  | cons b l ih =>
    rw [List.map_cons, List.find?_cons]
    by_cases h : b = a
    · subst h
      rw [decide_eq_true rfl, if_pos List.mem_cons_self]; rfl
    · have h1 : ¬ ((Sum.inl ((b : Nat) : Int) : Key) = Sum.inl (a : Int)) := fun e => h (by have := Sum.inl.inj e; omega)
      rw [decide_eq_false h1]
      have e2 : (a ∈ b :: l) ↔ a ∈ l := by
        rw [List.mem_cons]
        exact ⟨fun x => x.resolve_left fun e => h e.symm, Or.inr⟩
      show Option.map _ (List.find? _ _) = _
      rw [ih]
      by_cases h3 : a ∈ l
      · rw [if_pos h3, if_pos (e2.mpr h3)]
      · rw [if_neg h3, if_neg fun x => h3 (e2.mp x)]
theorem putK_dk {ns : List Nat} {f : Nat → Nat} {a k : Nat} (h : a ∉ ns) : putK (dk ns f) (Sum.inl (a : Int)) (.int (k : Int)) = dk (ns ++ [a]) fun i => if i = a then k else f i := by
  have h0 : ((dk ns f).any fun kv => decide (kv.1 = Sum.inl (a : Int))) = false := by
    rw [List.any_eq_false]
    intro kv hkv
    obtain ⟨i, hi, rfl⟩ := List.mem_map.mp hkv
    intro e
    have e1 := Sum.inl.inj (of_decide_eq_true e)
    have : i = a := by omega
    subst this; exact h hi
  unfold putK
  rw [h0, if_neg Bool.false_ne_true]
  unfold dk
  rw [List.map_append]
  congr 1
  · refine List.map_congr_left fun i hi => ?_
    show (_, V.int ((f i : Nat) : Int)) = (_, V.int (((if i = a then k else f i : Nat) : Nat) : Int))
    rw [if_neg fun e => h (by rw [← e]; exact hi)]
  · show [(_, _)] = [(_, V.int (((if a = a then k else f a : Nat) : Nat) : Int))]
    rw [if_pos rfl]
section
variable {P : Program} {w : World} {K : Fg} {mg : Str → Option Value} {base : Heap}
section
variable {σ : L2.St} {H : Hp} {ty tv : TE} {D : Ends} {rest : TS} {m : Nat} {a : Addr} {ns : List Nat} {f : Nat → Nat}
theorem z_dget {i : Nat} (hm : σ[m]? = some (some (.ref a))) (h : H a = some (.dK (dk ns f))) (hy : Ez K ty σ H (.int (i : Int))) (hi : i ∈ ns) : Ez K (tDGet (tVar m) ty) σ H (.int ((f i : Nat) : Int)) := fun H1 s Q q =>
  ⟨.ref a, hm, hy H1 s _ fun y H2 s2 dy => by
    cases dy
    have hv : valV (dk ns f) (Sum.inl (i : Int)) = some (.int ((f i : Nat) : Int)) := by rw [valV_dk, if_pos hi]
    have g : DGet H2 a (.int (i : Int)) (some (.int ((f i : Nat) : Int))) := hv ▸ DGet.k (k := Sum.inl (i : Int)) (s2 _ _ (s _ _ h))
    exact ⟨a, _, rfl, g, q _ H2 s2 (.int _)⟩⟩
theorem z_dnotin {i : Nat} (hm : σ[m]? = some (some (.ref a))) (h : H a = some (.dK (dk ns f))) (hy : Ez K ty σ H (.int (i : Int))) : Ez K (tDNotIn ty (tVar m)) σ H (.bool (!decide (i ∈ ns))) := fun H1 s Q q =>
  hy H1 s _ fun y H2 s2 dy => by
    cases dy
    refine ⟨.ref a, hm, a, _, rfl, DGet.k (k := Sum.inl (i : Int)) (s2 _ _ (s _ _ h)), ?_⟩
    have e : (!(valV (dk ns f) (Sum.inl (i : Int))).isSome) = !decide (i ∈ ns) := by
      rw [valV_dk]
      by_cases h : i ∈ ns
      · rw [if_pos h, decide_eq_true h]; rfl
      · rw [if_neg h, decide_eq_false h]; rfl
    rw [e]
    exact q _ H2 s2 (.bl _)
theorem s_dput {i k : Nat} (hm : σ[m]? = some (some (.ref a))) (h : H a = some (.dK (dk ns f))) (hn : i ∉ ns) (hl : ns.length < 1000) (hv : Ez K tv σ H (.int (k : Int))) (hy : ∀ H', Same H H' → Ez K ty σ H' (.int (i : Int)))
    (kk : ∀ H', Same H H' → rest D σ (upd H' a (.dK (dk (ns ++ [i]) fun x => if x = i then k else f x)))) : tSeq (sDPut (tVar m) ty tv) rest D σ H :=
  hv H (Same.refl _) _ fun v H2 s2 dv => ⟨.ref a, hm, hy H2 s2 H2 (Same.refl _) _ fun y H3 s3 dy => by
    cases dv; cases dy
    refine ⟨a, _, rfl, DPut.k (k := Sum.inl (i : Int)) (s3 _ _ (s2 _ _ h)) (Nat.lt_of_lt_of_le (by rw [dk_len]; exact hl) (by decide)), ?_⟩
    rw [putK_dk hn]
    exact kk H3 (s2.trans s3)⟩
end
abbrev s_period_of_ring : Stmt := topS 56
abbrev N_period_of_ring : List Str := ["table", "ring", "rounds", "line", "divisor", "at", "into"]
theorem sc_period_of_ring : FnScope N_period_of_ring ["table", "ring"] (defScope s_period_of_ring) := ⟨rfl, rfl, rfl, by decide +kernel, rfl, by decide +kernel, by decide +kernel⟩
theorem b_period_of_ring (T : Txt K mg) : Binds K (T.fd 38) ["table", "ring"] [] := (T.F 38 _ rfl).binds (ps := ["table", "ring"]) fun _ _ _ _ _ _ us hl => match us, hl with | [_, _], _ => rfl

def PPer : List PyData → (PyData → Prop) → Prop := fun ds R => ∃ (n : Nat) (A : Mx) (r : List Nat), ds = [tabD n A, ringD r] ∧ n ≤ 5 ∧ Tab n A ∧ r ∈ rgs n A ∧ R = fun x => ∃ d : Nat, Per n A r d ∧ x = .int (d : Int)
theorem ok_period_of_ring (T : Txt K mg) : FnOk P w K mg base CX0 2 (T.fa 38) (T.fd 38) ["table", "ring"] (spR K PPer) := by
  refine okR (T.F 38 _ rfl) sc_period_of_ring (fun ds r h => ?_) (fun cdv A0 outer s H vs Q E ds R hr hv hp q => ?_)
  · obtain ⟨_, _, _, rfl, _⟩ := h; rfl
  · obtain ⟨n, A, r, rfl, h5, t, hrm, rfl⟩ := hp
    obtain ⟨u, v, rfl, du, dv⟩ := two_of hv
    refine ⟨_, (pss_cons (ps_set (i := 2) sc_period_of_ring.nd rfl (Or.inl rfl) (pe_disp (pps_cons (pe_ix (ix_seqK K) (pv 1) pe_int (fun _ _ => rfl)) pe_int pps_nil) (by rfl) (by rfl) (fun z => by cases z) (by decide)))
      (pss_cons (ps_set (i := 3) sc_period_of_ring.nd rfl (Or.inl rfl) (pe_lst (pa_cons (pe_ix (ix_seqK K) (pv 1) pe_int (fun _ _ => rfl)) pa_nil)))
      (pss_cons (ps_set (i := 4) sc_period_of_ring.nd rfl (Or.inl rfl) pe_int)
      (pss_cons (ps_set (i := 5) sc_period_of_ring.nd rfl (Or.inl rfl) pe_int)
      (pss_cons (ps_while PassesOwn.never (pt_cmpR op_lt (pv 5) (pe_callB (call_lenK K) (by rfl) (T.n "len") PySem.boot_len (pa_cons (pv 3) pa_nil)) (nomark _))
       (pss_cons (ps_for PassesOwn.never rfl (pi_listK K (pe_call (ok_goes_to T) (hr.mono (by decide)) (by rfl) (T.g 35 _ rfl) (T.F 35 _ rfl).kp (b_goes_to T) .nil pass0 (pa_cons (pv 0) (pa_cons (pe_ix (ix_seqK K) (pv 3) (pv 5) (fun _ _ => rfl)) pa_nil)))) (pg_name (i := 6) sc_period_of_ring.nd rfl (Or.inl rfl))
        (pss_cons (ps_if (pt_cmp (pc_dnotin (hu_of hr) (pv 6) (pv 2)))
         (pss_cons (ps_dput (hu_of hr) (pv 2) (pv 6) (pe_op op_add (pe_dget (hu_of hr) (pv 2) (pe_ix (ix_seqK K) (pv 3) (pv 5) (fun _ _ => rfl)) (fun _ _ => rfl)) pe_int) rfl)
         (pss_one (ps_expr (pe_appK K (pv 3) (pa_cons (pv 6) pa_nil)))))
         pss_nil)
        (pss_one (ps_set (i := 4) sc_period_of_ring.nd rfl (Or.inl rfl) (pe_callBfun cr_gcd (by rfl) T.gcd (pa_cons (pv 4) (pa_cons (pe_op op_sub (pe_op op_add (pe_dget (hu_of hr) (pv 2) (pe_ix (ix_seqK K) (pv 3) (pv 5) (fun _ _ => rfl)) (fun _ _ => rfl)) pe_int) (pe_dget (hu_of hr) (pv 2) (pv 6) (fun _ _ => rfl))) pa_nil)))))))
       (pss_one (ps_set (i := 5) sc_period_of_ring.nd rfl (Or.inl rfl) (pe_op op_add (pv 5) pe_int)))))
      (pss_one (ps_ret (pv 4)))))))), ?_⟩
    have RR := isRing hrm
    obtain ⟨c, l, e0⟩ : ∃ c l, r = c :: l := by
      cases r with
      | nil => exact absurd rfl RR.ne
      | cons c l => exact ⟨c, l, rfl⟩
    have hcr : c ∈ r := by rw [e0]; exact List.mem_cons_self
    have hcn := RR.lt c hcr
    have hd0 : (di r)[0]? = some (.int (c : Int)) := by rw [e0]; rfl
    -- rounds = {ring[0]: 0}
    refine (?_ : tSeq _ _ _ _ _)
    intro da nd
    refine (z_ixT (K := K) (i := 0) (z_var (i := 1) rfl (L2.Dp.mono (same_new nd) dv)) z_int hd0) _ (Same.refl _) _ fun y0 H1 s1 dy => ?_
    cases dy
    refine ⟨s1 _ _ upd_same, [(Sum.inl (c : Int), .int 0)], rfl, Nat.le_of_ble_eq_true rfl, ?_⟩
    have e1 : mergeK [] [((Sum.inl (c : Int) : Key), V.int 0)] = dk [c] fun _ => 0 := rfl
    rw [e1]
    have sH1 : Same H (upd H1 da (.dK (dk [c] fun _ => 0))) := fun b o z => by
      rw [upd_ne (ne_of_none z nd)]; exact s1 _ _ (same_new nd _ _ z)
    -- line = [ring[0]]
    refine (?_ : tSeq _ _ _ _ _)
    refine (z_ixT (K := K) (i := 0) (z_var (i := 1) rfl (L2.Dp.mono sH1 dv)) z_int hd0) _ (Same.refl _) _ fun y0 H2 s2 dy => ?_
    cases dy
    refine ⟨by show 1 ≤ sizeLine; decide, fun la nl => ?_⟩
    have nlH : H la = none := sH1.free (s2.free nl)
    have hda2 : H2 da = some (.dK (dk [c] fun _ => 0)) := s2 _ _ upd_same
    have hdl : da ≠ la := fun e => by rw [← e, hda2] at nl; cases nl
    have sH2 := (sH1.trans s2).trans (same_new (o := .lst [.int (c : Int)]) nl)
    refine s_set (K := K) z_int fun v1 H3 s3 d3 => ?_
    cases d3
    refine s_set (K := K) z_int fun v1 H4 s4 d4 => ?_
    cases d4
    refine s_while (fun m σ' H' => ∃ (ns : List Nat) (f : Nat → Nat) (es : List (Nat × Nat)) (k d : Nat) (y6 : Option V), σ' = [some u, some v, some (.ref da), some (.ref la), some (.int (d : Int)), some (.int (k : Int)), y6] ∧ Same H H' ∧ H' da = some (.dK (dk ns f)) ∧ H' la = some (.lst (vi ns)) ∧ ns.Nodup ∧ c ∈ ns ∧ (∀ i ∈ ns, Wk n A (f i) c i) ∧ k ≤ ns.length ∧
        DG f es d ∧ (∀ e ∈ es, e.1 ∈ ns ∧ e.2 ∈ ns ∧ 0 < A e.2 e.1) ∧ (∀ t j, t < k → ns[t]? = some j → ∀ i, i < n → 0 < A i j → (j, i) ∈ es) ∧ m = n - k)
      (m0 := n) ⟨[c], fun _ => 0, [], 0, 0, none, rfl, sH2.trans (s3.trans s4), s4 _ _ (s3 _ _ (by rw [upd_ne hdl]; exact hda2)), s4 _ _ (s3 _ _ upd_same), by simp, by simp, fun i hi => by simp at hi; subst hi; exact .nil hcn, Nat.zero_le _, .nil, fun e h => (List.not_mem_nil h).elim, fun t j h => absurd h (Nat.not_lt_zero _), rfl⟩ fun m σ' H' p => ?_
    obtain ⟨ns, f, es, k, d, y6, rfl, s', hfd, hfl, nd', hcm, hwk, hk, hDG, hes, hcl, rfl⟩ := p
    have hltn : ∀ i ∈ ns, i < n := fun i hi => (hwk i hi).lt2
    have hlen := nodup_len nd' hltn
    refine ⟨decide ((k : Int) < (ns.length : Int)), t_val (z_cmp (K := K) (p := fun i j => decide (i < j)) (z_var (i := 5) rfl (.int _)) ?_), fun hb H2 s2 => ?_, fun hb H2 s2 => ?_⟩
    · have h := z_lenL (K := K) (z_var (σ := [some u, some v, some (.ref da), some (.ref la), some (.int (d : Int)), some (.int (k : Int)), y6]) (i := 3) rfl (dp_vi hfl))
      rw [di_len] at h
      exact h
    · have hb : k < ns.length := by have := of_decide_eq_true hb; omega
      obtain ⟨j, hj⟩ : ∃ j, ns[k]? = some j := ⟨_, List.getElem?_eq_getElem hb⟩
      have hjm : j ∈ ns := List.mem_of_getElem? hj
      have hjn := hltn j hjm
      have hfl2 := s2 _ _ hfl
      have hfd2 := s2 _ _ hfd
      have hdi : (di ns)[k]? = some (.int (j : Int)) := by unfold di; rw [List.getElem?_map, hj]; rfl
      refine s_forIS (K := K) (ns := outs n A j) (n_call (a_cons (z_var (i := 0) rfl (L2.Dp.mono (s'.trans s2) du)) (a_one (z_ixL (i := k) (z_var (i := 3) rfl (dp_vi hfl2)) (z_var (i := 5) rfl (.int _)) hdi))) ⟨n, A, j, rfl, h5, hjn, rfl⟩)
        (fun g i σ' H' => ∃ (ns' : List Nat) (f : Nat → Nat) (es' : List (Nat × Nat)) (d : Nat) (y6 : Option V), σ' = [some u, some v, some (.ref da), some (.ref la), some (.int (d : Int)), some (.int (k : Int)), y6] ∧ Same H H' ∧ H' da = some (.dK (dk ns' f)) ∧ H' la = some (.lst (vi ns')) ∧ H' g = some (.lst (vi (outs n A j))) ∧ ns'.Nodup ∧ c ∈ ns' ∧ (∀ i ∈ ns', Wk n A (f i) c i) ∧ ns <+: ns' ∧
          DG f es' d ∧ (∀ e ∈ es', e.1 ∈ ns' ∧ e.2 ∈ ns' ∧ 0 < A e.2 e.1) ∧ (∀ e ∈ es, e ∈ es') ∧ (∀ t i', t < i → (outs n A j)[t]? = some i' → (j, i') ∈ es'))
        (fun g H3 s3 hn hg => ⟨ns, f, es, d, y6, rfl, (s'.trans s2).trans s3, s3 _ _ hfd2, s3 _ _ hfl2, hg, nd', hcm, hwk, List.prefix_refl _, hDG, hes, fun _ h => h, fun t i' h => absurd h (Nat.not_lt_zero _)⟩) (fun g i σ' H' hn p => ?_) (fun g i σ' H' x hn hx p => ?_) (fun g σ' H' hn p => ?_)
      · obtain ⟨_, _, _, _, _, _, _, _, _, h, _⟩ := p; exact h
      · obtain ⟨ns', f, es', d, y6, rfl, s5, hfd5, hfl5, hg5, nd5, hc5, hwk5, hpre, hDG5, hes5, hsub5, hin5⟩ := p
        have hxm := mem_outs.mp (List.mem_of_getElem? hx)
        have hgl : g ≠ la := fun e => by rw [e, hfl2] at hn; cases hn
        have hgd : g ≠ da := fun e => by rw [e, hfd2] at hn; cases hn
        have hl5 := nodup_len nd5 fun i hi => (hwk5 i hi).lt2
        have hj5 : j ∈ ns' := hpre.subset hjm
        have hdi5 : (di ns')[k]? = some (.int (j : Int)) := by
          unfold di
          obtain ⟨l, rfl⟩ := hpre
          rw [List.getElem?_map, List.getElem?_append_left (by omega), hj]; rfl
        -- the divisor's new value, where the cask is known
        refine s_ifX (b := !decide (x ∈ ns')) (fun σ7 H7 => ∃ (ns2 : List Nat) (f2 : Nat → Nat), σ7 = [some u, some v, some (.ref da), some (.ref la), some (.int (d : Int)), some (.int (k : Int)), some (.int (x : Int))] ∧ Same H H7 ∧ H7 da = some (.dK (dk ns2 f2)) ∧ H7 la = some (.lst (vi ns2)) ∧ H7 g = some (.lst (vi (outs n A j))) ∧ ns2.Nodup ∧ (∀ i ∈ ns2, Wk n A (f2 i) c i) ∧ ns' <+: ns2 ∧ x ∈ ns2 ∧ DG f2 es' d)
          (t_val (z_dnotin (K := K) rfl hfd5 (z_var (i := 6) rfl (.int _)))) (fun hb6 H6 s6 N hN => ?_) (fun hb6 H6 s6 N hN => ?_) (fun σ7 H7 p7 => ?_)
        · have hxn : x ∉ ns' := by
            intro e
            rw [decide_eq_true e] at hb6; cases hb6
          have hfd6 := s6 _ _ hfd5
          have hfl6 := s6 _ _ hfl5
          refine s_dput (K := K) (k := f j + 1) rfl hfd6 hxn (by omega) ?_ (fun H' _ => z_var (i := 6) rfl (.int _)) fun H7 s7 => ?_
          · have h := z_add (K := K) (z_dget (σ := [some u, some v, some (.ref da), some (.ref la), some (.int (d : Int)), some (.int (k : Int)), some (.int (x : Int))]) (m := 2) rfl hfd6 (z_ixL (i := k) (z_var (i := 3) rfl (dp_vi hfl6)) (z_var (i := 5) rfl (.int _)) hdi5) hj5) (z_int (i := 1))
            rw [Int.natCast_add]
            exact h
          have hfl7 : upd H7 da (.dK (dk (ns' ++ [x]) fun i => if i = x then f j + 1 else f i)) la = some (.lst (vi ns')) := by
            rw [upd_ne (Ne.symm hdl)]; exact s7 _ _ hfl6
          refine s_appI (K := K) (m := 3) rfl hfl7 (by omega) (z_var (i := 6) rfl (.int _)) fun H8 s8 => ?_
          refine hN _ _ ⟨ns' ++ [x], fun i => if i = x then f j + 1 else f i, rfl, fun b o z => ?_, ?_, upd_same, ?_, ?_, fun i hi => ?_, List.prefix_append _ _, List.mem_append_right _ (by simp), hDG5.congr fun e he => ?_⟩
          · rw [upd_ne (ne_of_none z nlH)]
            refine s8 _ _ ?_
            rw [upd_ne (ne_of_none z nd)]
            exact s7 _ _ (s6 _ _ (s5 _ _ z))
          · rw [upd_ne hdl]; exact s8 _ _ upd_same
          · rw [upd_ne hgl]
            refine s8 _ _ ?_
            rw [upd_ne hgd]
            exact s7 _ _ (s6 _ _ hg5)
          · exact List.nodup_append.mpr ⟨nd5, by simp, fun a ha b hb e => by simp at hb; subst hb; subst e; exact hxn ha⟩
          · show Wk n A (if i = x then f j + 1 else f i) c i
            rcases List.mem_append.mp hi with h | h
            · rw [if_neg fun e => hxn (by rw [← e]; exact h)]; exact hwk5 i h
            · simp at h
              subst h
              rw [if_pos rfl]
              exact (hwk5 j hj5).app (Wk.one hjn hxm.1 hxm.2)
          · obtain ⟨e1, e2, _⟩ := hes5 e he
            show f e.1 = (if e.1 = x then f j + 1 else f e.1) ∧ f e.2 = (if e.2 = x then f j + 1 else f e.2)
            rw [if_neg fun q => hxn (by rw [← q]; exact e1), if_neg fun q => hxn (by rw [← q]; exact e2)]
            exact ⟨rfl, rfl⟩
        · have hxn : x ∈ ns' := by
            by_cases e : x ∈ ns'
            · exact e
            · rw [decide_eq_false e] at hb6; cases hb6
          exact hN _ _ ⟨ns', f, rfl, s5.trans s6, s6 _ _ hfd5, s6 _ _ hfl5, s6 _ _ hg5, nd5, hwk5, List.prefix_refl _, hxn, hDG5⟩
        · obtain ⟨ns2, f2, rfl, s7, hfd7, hfl7, hg7, nd7, hwk7, hpre7, hx7, hDG7⟩ := p7
          have hj7 : j ∈ ns2 := hpre7.subset hj5
          have hdi7 : (di ns2)[k]? = some (.int (j : Int)) := by
            unfold di
            obtain ⟨l, rfl⟩ := hpre.trans hpre7
            rw [List.getElem?_map, List.getElem?_append_left (by omega), hj]; rfl
          refine s_set1 (K := K) (z_gcd (z_var (i := 4) rfl (.int _)) (z_sub (z_add (z_dget (m := 2) rfl hfd7 (z_ixL (i := k) (z_var (i := 3) rfl (dp_vi hfl7)) (z_var (i := 5) rfl (.int _)) hdi7) hj7) z_int) (z_dget (m := 2) rfl hfd7 (z_var (i := 6) rfl (.int _)) hx7))) fun v8 H8 s8 d8 => ?_
          cases d8
          rw [Int.natAbs_natCast]
          refine ⟨ns2, f2, es' ++ [(j, x)], _, _, rfl, s7.trans s8, s8 _ _ hfd7, s8 _ _ hfl7, s8 _ _ hg7, nd7, hpre7.subset hc5, hwk7, hpre.trans hpre7, hDG7.step j x, fun e he => ?_, fun e he => List.mem_append_left _ (hsub5 e he), fun t i' ht hi' => ?_⟩
          · rcases List.mem_append.mp he with h | h
            · obtain ⟨e1, e2, e3⟩ := hes5 e h
              exact ⟨hpre7.subset e1, hpre7.subset e2, e3⟩
            · simp at h
              subst h
              exact ⟨hj7, hx7, hxm.2⟩
          · by_cases e : t = i
            · subst e
              rw [hx] at hi'
              cases hi'
              exact List.mem_append_right _ (by simp)
            · exact List.mem_append_left _ (hin5 t i' (by omega) hi')
      · obtain ⟨ns', f, es', d, y6, rfl, s5, hfd5, hfl5, hg5, nd5, hc5, hwk5, hpre, hDG5, hes5, hsub5, hin5⟩ := p
        refine s_set1 (K := K) (z_add (z_var (i := 5) rfl (.int _)) z_int) fun v6 H6 s6 d6 => ?_
        cases d6
        have hl5 := nodup_len nd5 fun i hi => (hwk5 i hi).lt2
        have hple := hpre.length_le
        refine ⟨n - (k + 1), by omega, ns', f, es', k + 1, d, y6, ?_, s5.trans s6, s6 _ _ hfd5, s6 _ _ hfl5, nd5, hc5, hwk5, by omega, hDG5, hes5, fun t j' ht hj' i hi hp => ?_, rfl⟩
        · rw [Int.natCast_add]; rfl
        · have hj2 : ns[t]? = some j' := by
            obtain ⟨l, rfl⟩ := hpre
            rw [List.getElem?_append_left (by omega)] at hj'
            exact hj'
          by_cases e : t = k
          · subst e
            rw [hj] at hj2
            cases hj2
            obtain ⟨t, ht⟩ := List.getElem?_of_mem (mem_outs.mpr ⟨hi, hp⟩)
            exact hin5 t i (List.getElem?_eq_some_iff.mp ht).1 ht
          · exact hsub5 _ (hcl t j' (by omega) hj2 i hi hp)
    · have hb : k = ns.length := by have := of_decide_eq_false hb; omega
      have hin : ∀ i ∈ ns, i ∈ r := fun i hi => by
        rw [← RR.eq c hcr]; exact mem_rch.mpr ⟨_, hwk i hi⟩
      have hclo : ∀ j ∈ ns, ∀ i, i < n → 0 < A i j → (j, i) ∈ es := fun j hj i hi hp => by
        obtain ⟨t, ht⟩ := List.getElem?_of_mem hj
        exact hcl t j (by rw [hb]; exact (List.getElem?_eq_some_iff.mp ht).1) ht i hi hp
      have hout : ∀ i ∈ r, i ∈ ns := fun i hi => by
        obtain ⟨m, hw⟩ := RR.conn hcr hi
        exact walk_in (S := fun i => i ∈ ns) (fun j hj i hi hp => (hes _ (hclo j hj i hi hp)).2.1) hw hcm
      refine ⟨.int (d : Int), rfl, q _ ⟨d, Per.of RR hcr hDG (fun i hi => hwk i (hout i hi)) (fun e he => ?_) (fun j i hj hi hp => hclo j (hout j hj) i (RR.lt i hi) hp), rfl⟩ _ _ (s'.trans s2) (.int _)⟩
      obtain ⟨e1, e2, e3⟩ := hes e he
      exact ⟨hin _ e1, hin _ e2, e3⟩
abbrev s_period : Stmt := topS 57
abbrev N_period : List Str := ["table", "least", "ring"]
theorem sc_period : FnScope N_period ["table"] (defScope s_period) := ⟨rfl, rfl, rfl, by decide +kernel, rfl, by decide +kernel, by decide +kernel⟩
theorem b_period (T : Txt K mg) : Binds K (T.fd 39) ["table"] [] := (T.F 39 _ rfl).binds (ps := ["table"]) fun _ _ _ _ _ _ us hl => match us, hl with | [_], _ => rfl

def PPrd : List PyData → (PyData → Prop) → Prop := fun ds R => ∃ (n : Nat) (A : Mx), ds = [tabD n A] ∧ Tb n A ∧ R = fun x => ∃ p : Nat, PerT n A p ∧ x = .int (p : Int)
theorem rgs_len {n : Nat} {A : Mx} : (rgs n A).length ≤ n := by
  have h : ∀ l : List (List Nat), (∀ r ∈ l, r ≠ []) → l.length ≤ l.flatten.length := by
    intro l
    induction l with
    | nil => intro _; exact Nat.le_refl _
    | cons r l ih =>
      intro h
      have h1 := ih fun s hs => h s (List.mem_cons_of_mem _ hs)
      have h2 : 0 < r.length := List.length_pos_iff.mpr (h r List.mem_cons_self)
      rw [List.flatten_cons, List.length_append, List.length_cons]; omega
  exact Nat.le_trans (h _ fun r hr => (isRing hr).ne) rgs_flat.2
theorem ok_period (T : Txt K mg) : FnOk P w K mg base CX0 9 (T.fa 39) (T.fd 39) ["table"] (spR K PPrd) := by
  refine okR (T.F 39 _ rfl) sc_period (fun ds r h => ?_) (fun cdv A0 outer s H vs Q E ds R hr hv hp q => ?_)
  · obtain ⟨_, _, rfl, _⟩ := h; rfl
  · obtain ⟨n, A, rfl, t, rfl⟩ := hp
    obtain ⟨u, rfl, du⟩ := one_of hv
    refine ⟨_, (pss_cons (ps_set (i := 1) sc_period.nd rfl (Or.inl rfl) pe_int)
      (pss_cons (ps_for PassesOwn.never rfl (pi_listK K (pe_call (ok_rings T) (hr.mono (by decide)) (by rfl) (T.g 37 _ rfl) (T.F 37 _ rfl).kp (b_rings T) .nil pass0 (pa_cons (pv 0) pa_nil))) (pg_name (i := 2) sc_period.nd rfl (Or.inl rfl))
       (pss_one (ps_set (i := 1) sc_period.nd rfl (Or.inl rfl) (pe_callBfun cr_lcmX (by rfl) T.lcm (pa_cons (pv 1) (pa_cons (pe_call (ok_period_of_ring T) (hr.mono (by decide)) (by rfl) (T.g 38 _ rfl) (T.F 38 _ rfl).kp (b_period_of_ring T) .nil pass0 (pa_cons (pv 0) (pa_cons (pv 2) pa_nil))) pa_nil))))))
      (pss_one (ps_ret (pv 1))))), ?_⟩
    have h5 := t.n5
    refine s_set (K := K) z_int fun v1 H1 s1 d1 => ?_
    cases d1
    -- for ring in rings(table)
    have hrl := rgs_len (n := n) (A := A)
    have hg : ∀ R : It → Hp → Prop, (∀ J H2, Same H1 H2 → Src1At K J H2 ((rgs n A).map ringD).length (fun i => ((rgs n A).map ringD).getD i .none) → R J H2) → iList K (tCall (spD K PRgs) [] E0 (tCons (tVar 0) tNil)) [some u, some (.int 1), none] H1 R :=
      fun R q => srcG_list (K := K) (z_call (a_one (z_var (i := 0) rfl (L2.Dp.mono s1 du))) ⟨n, A, rfl, t, rfl⟩) H1 (Same.refl _) R q
    refine s_forG (K := K) (fun H2 i σ' H' => ∃ (g : List Nat → Nat) (y2 : Option V), σ' = [some u, some (.int (((((rgs n A).take i).foldl (fun a r => Nat.lcm a (g r)) 1 : Nat)) : Int)), y2] ∧ Same H H' ∧ Same H2 H' ∧ ∀ r ∈ (rgs n A).take i, Per n A r (g r)) hg (fun H2 s2 => ⟨fun _ => 0, none, rfl, s1.trans s2, Same.refl _, fun r h => by rw [List.take_zero] at h; exact absurd h (by simp)⟩) (fun H2 i σ' H' p => p.choose_spec.choose_spec.2.2.1) (fun H2 i σ' H' s2 hi p x dx => ?_) (fun H2 σ' H' s2 p => ?_)
    · obtain ⟨g, y2, rfl, s3, s23, hg⟩ := p
      rw [List.length_map] at hi
      have hrm : (rgs n A)[i] ∈ rgs n A := List.getElem_mem hi
      have e : ((rgs n A).map ringD).getD i .none = ringD (rgs n A)[i] := by
        rw [List.getD_eq_getElem?_getD, List.getElem?_map, List.getElem?_eq_getElem hi]; rfl
      rw [e] at dx
      have htk : (rgs n A).take (i + 1) = (rgs n A).take i ++ [(rgs n A)[i]] := List.take_succ_eq_append_getElem hi
      have hfb : ((rgs n A).take i).foldl (fun a r => Nat.lcm a (g r)) 1 ≤ 6 := by
        have h1 := foldl_lcm_le (g := g) ((rgs n A).take i) 1 (fun r hr => (hg r hr).pos (isRing (List.mem_of_mem_take hr)) t.tab) (by
          have a1 := rgs_flat (n := n) (A := A)
          have a2 : ((rgs n A).take i).flatten.length ≤ (rgs n A).flatten.length := by
            conv => rhs; rw [← List.take_append_drop i (rgs n A), List.flatten_append, List.length_append]
            omega
          omega) (by decide)
        have hl : lnd ((rgs n A).take i).flatten.length ≤ 6 := by
          generalize ((rgs n A).take i).flatten.length = s
          unfold lnd
          split <;> omega
        omega
      -- least = lcm(least, period_of_ring(table, ring))
      refine ⟨.int _, rfl, ?_⟩
      refine er_call (K := K) (E := E0) (a_cons (z_var (i := 0) rfl (L2.Dp.mono s3 du)) (a_one (z_var (σ := [some u, some (.int (((((rgs n A).take i).foldl (fun a r => Nat.lcm a (g r)) 1 : Nat)) : Int)), some x]) (i := 2) rfl (L2.Dp.mono s23 dx)))) ⟨n, A, _, rfl, h5, t.tab, hrm, rfl⟩ H' (Same.refl _) _ fun r hr v5 H5 s5 d5 => ?_
      obtain ⟨d, hd, rfl⟩ := hr
      cases d5
      have hdl := hd.pos (isRing hrm) t.tab
      have hrl2 : (rgs n A)[i].length ≤ n := nodup_len (isRing hrm).nd (isRing hrm).lt
      have h13 : (16 : Nat) < 2 ^ 13000 := Nat.lt_of_lt_of_le (show 16 < 2 ^ 5 by decide) (Nat.pow_le_pow_right (by decide) (by decide))
      refine ⟨_, _, rfl, by rw [Int.natAbs_natCast]; exact Nat.lt_of_le_of_lt hfb (by omega), by rw [Int.natAbs_natCast]; exact Nat.lt_of_le_of_lt hdl.2 (by omega), ?_⟩
      rw [Int.natAbs_natCast, Int.natAbs_natCast]
      refine ⟨fun r => if r = (rgs n A)[i] then d else g r, some x, ?_, s3.trans s5, s23.trans s5, fun r hr => ?_⟩
      · have e2 : ((rgs n A).take i).foldl (fun a r => Nat.lcm a (if r = (rgs n A)[i] then d else g r)) 1 = ((rgs n A).take i).foldl (fun a r => Nat.lcm a (g r)) 1 := by
          refine foldl_lcm_congr (g := fun r => if r = (rgs n A)[i] then d else g r) _ _ fun r hr => ?_
          have hne : r ≠ (rgs n A)[i] := fun e => by
            have h1 := (rgs_nodup (n := n) (A := A)).sublist (List.take_sublist (i + 1) _)
            rw [htk] at h1
            exact (List.nodup_append.mp h1).2.2 r hr _ (by simp) e
          rw [if_neg hne]
        rw [htk, List.foldl_append, e2]
        show _ = [some u, some (V.int ((Nat.lcm _ (if (rgs n A)[i] = (rgs n A)[i] then d else _) : Nat) : Int)), some x]
        rw [if_pos rfl]
        rfl
      · show Per n A r (if r = (rgs n A)[i] then d else g r)
        by_cases e3 : r = (rgs n A)[i]
        · rw [if_pos e3, e3]; exact hd
        · rw [if_neg e3]
          rw [htk] at hr
          rcases List.mem_append.mp hr with h | h
          · exact hg r h
          · simp at h; exact absurd h e3
    · obtain ⟨g, y2, rfl, s3, s23, hg⟩ := p
      rw [List.length_map, List.take_length] at hg ⊢
      exact ⟨_, rfl, q _ ⟨_, ⟨g, hg, rfl⟩, rfl⟩ _ _ s3 (.int _)⟩
end
end Ck
end

section
set_option Elab.async false
set_option linter.all false
set_option maxRecDepth 100000
set_option maxHeartbeats 4000000
/-! standing, comes_into. -/
namespace Ck
open PySem PySem.Spec PyProof.Rows L2
section
variable {P : Program} {w : World} {K : Fg} {mg : Str → Option Value} {base : Heap}
section
variable {σ : L2.St} {H : Hp} {ta tb : TE} {i j : Nat}
theorem del_D : frD (if i = j then 1 else 0) = .tuple [.int (if decide ((i : Int) = (j : Int)) = true then 1 else 0), .int 1] := by
  by_cases h : i = j
  · rw [if_pos h, decide_eq_true (show (i : Int) = (j : Int) by omega), if_pos rfl]; rfl
  · rw [if_neg h, decide_eq_false (show ¬ (i : Int) = (j : Int) by omega), if_neg Bool.false_ne_true]; rfl
/-- (int(one == other), 1) -/
theorem z_del (ha : Ez K ta σ H (.int (i : Int))) (hb : Ez K tb σ H (.int (j : Int))) : Ez K (tTup (tCons (tCB (fun xs H Q => (∃ i, xs = [.int i] ∧ Q (.int i) H) ∨ ∃ k, xs = [.bl k] ∧ Q (.int (if k = true then 1 else 0)) H) (tCons (tOp (rEqD K) ta tb) tNil)) (tCons (tC (.int 1)) tNil))) σ H (frD (if i = j then 1 else 0)) := by
  rw [del_D]
  exact z_tup (a_cons (z_intB (z_eqI ha hb)) (a_one z_int))
theorem n_one : En K (tTup (tCons (tC (.int 1)) (tCons (tC (.int 1)) tNil))) σ H (frD 1) := n_tup (an_cons z_int.en (an_cons z_int.en an_nil))
theorem n_zero : En K (tTup (tCons (tC (.int 0)) (tCons (tC (.int 1)) tNil))) σ H (frD 0) := n_tup (an_cons z_int.en (an_cons z_int.en an_nil))
end
theorem bd_unit {D : Nat} {q : Rat} (hD : 0 < D) (hs : D < 2 ^ 16) (h : q.den ∣ D) (h0 : 0 ≤ q) (h1 : q ≤ 1) : Bd 16 q := (fb_of h h0 h1).bd hD (Nat.le_refl _) (by rw [Nat.one_mul]; exact hs)
theorem bd_del {i j : Nat} : Bd 16 (if i = j then 1 else 0) := by split <;> constructor <;> decide
abbrev s_standing : Stmt := topS 58
abbrev N_standing : List Str := ["table", "ring", "rows", "into", "cask"]
theorem sc_standing : FnScope N_standing ["table", "ring"] (defScope s_standing) := ⟨rfl, rfl, rfl, by decide +kernel, rfl, by decide +kernel, by decide +kernel⟩
theorem b_standing (T : Txt K mg) : Binds K (T.fd 40) ["table", "ring"] [] := (T.F 40 _ rfl).binds (ps := ["table", "ring"]) fun _ _ _ _ _ _ us hl => match us, hl with | [_, _], _ => rfl

def PStd : List PyData → PyData → Prop := fun ds x => ∃ (n : Nat) (A : Mx) (r : List Nat) (D : Nat), ds = [tabD n A, ringD r] ∧ Tab n A ∧ n ≤ 5 ∧ r ∈ rgs n A ∧ 0 < D ∧ D < 2 ^ 16 ∧ (∀ i j, i < n → j < n → (A i j).den ∣ D) ∧ x = rowL r.length fun j => pi0 A r (r.getD j 0)
theorem ok_standing (T : Txt K mg) : FnOk P w K mg base CX0 5 (T.fa 40) (T.fd 40) ["table", "ring"] (spD K PStd) := by
  refine okD (T.F 40 _ rfl) sc_standing (fun ds r h => ?_) (fun cdv A0 outer s H vs Q E ds r' hr hv hp q => ?_)
  · obtain ⟨_, _, _, _, rfl, _⟩ := h; rfl
  · obtain ⟨n, A, r, D, rfl, t, h5, hrm, hD, hDs, hdn, rfl⟩ := hp
    obtain ⟨u, v, rfl, du, dv⟩ := two_of hv
    refine ⟨_, (pss_cons (ps_set (i := 2) sc_standing.nd rfl (Or.inl rfl) (pe_lst pa_nil))
      (pss_cons (ps_for PassesOwn.never rfl (pi_tupK K (pv 1)) (pg_name (i := 3) sc_standing.nd rfl (Or.inr rfl))
       (pss_one (ps_expr (pe_appK K (pv 2) (pa_cons (pe_lc (own := [("cask", 4)])  rfl sc_standing.nd (pi_tupK K (pv 1)) (blkOk_by (N := N_standing) (sc := defScope s_standing) (by decide +kernel)) (fun _ _ _ _ _ => (pg_name (i := 4) sc_standing.nd rfl (Or.inl rfl))) (fun _ _ _ _ _ => pts_nil) (fun _ _ _ _ _ => (pe_call (ok_less T) (hr.mono (by decide)) (by rfl) (T.g 9 _ rfl) (T.F 9 _ rfl).kp (b_less T) .nil pass0 (pa_cons (pe_ix (ix_seqK K) (pe_ix (ix_seqK K) (pv 0) (pv 3) (fun _ _ => rfl)) (pv 4) (fun _ _ => rfl)) (pa_cons (pe_tup (pa_cons (pe_callTy call_int1 (by rfl) (T.n "int") (by decide +kernel) (pa_cons (pe_cmpR (op_eqK K hr.units) (pv 3) (pv 4) (nomark _)) pa_nil)) (pa_cons pe_int pa_nil))) pa_nil))))) pa_nil)))))
      (pss_cons (ps_expr (pe_appK K (pv 2) (pa_cons (pe_lc (own := [("cask", 4)])  rfl sc_standing.nd (pi_tupK K (pv 1)) (blkOk_by (N := N_standing) (sc := defScope s_standing) (by decide +kernel)) (fun _ _ _ _ _ => (pg_name (i := 4) sc_standing.nd rfl (Or.inl rfl))) (fun _ _ _ _ _ => pts_nil) (fun _ _ _ _ _ => (pe_tup (pa_cons pe_int (pa_cons pe_int pa_nil))))) pa_nil)))
      (pss_one (ps_ret (pe_call (ok_only_point T) (hr.mono (by decide)) (by rfl) (T.g 15 _ rfl) (T.F 15 _ rfl).kp (b_only_point T) .nil pass0 (pa_cons (pv 2) (pa_cons (pe_op (op_catK K) (pe_lc (own := [("cask", 4)])  rfl sc_standing.nd (pi_tupK K (pv 1)) (blkOk_by (N := N_standing) (sc := defScope s_standing) (by decide +kernel)) (fun _ _ _ _ _ => (pg_name (i := 4) sc_standing.nd rfl (Or.inl rfl))) (fun _ _ _ _ _ => pts_nil) (fun _ _ _ _ _ => (pe_tup (pa_cons pe_int (pa_cons pe_int pa_nil))))) (pe_lst (pa_cons (pe_tup (pa_cons pe_int (pa_cons pe_int pa_nil))) pa_nil))) pa_nil)))))))), ?_⟩
    have R := isRing hrm
    have hlen : r.length ≤ n := nodup_len R.nd R.lt
    have hl1 : 0 < r.length := List.length_pos_iff.mpr R.ne
    have bA : ∀ {i j}, i < n → j < n → Bd 16 (A i j) := fun hi hj => bd_unit hD hDs (hdn _ _ hi hj) (t.nn _ _ hi hj) (t.le1 hi hj)
    refine s_setnil fun ma nm => ?_
    have s0 := same_new (o := .lst []) nm
    refine s_forHS (K := K) (Hb := H) (fun i σ' H' => ∃ y3 : Option V, σ' = [some u, some v, some (.ref ma), y3, none] ∧ LcInv K H ma (tab i fun k => rowL r.length (stdA A r k)) H') ((src_tup (p_var (i := 1) rfl dv)).h s0) ⟨none, rfl, LcF.start nm⟩ (fun i σ' H' p => ?_) (fun k σ' H' hk p x dx => ?_) (fun σ' H' p => ?_)
    · obtain ⟨_, _, I⟩ := p; exact I.same
    · obtain ⟨y3, rfl, I⟩ := p
      rw [di_len] at hk
      rw [di_getD hk] at dx
      cases dx
      have hkn := R.lt _ (getD_in hk)
      have du' := L2.Dp.mono I.same du
      have dv' := L2.Dp.mono I.same dv
      refine s_app (K := K) (m := 2) (Hb := H) rfl nm I (by rw [tab_len]; omega) (d := rowL r.length (stdA A r k)) ?_ fun H5 I5 _ => ⟨_, rfl, by rw [tab_succ]; exact I5⟩
      have h := n_lcA (K := K) (σ := [some u, some v, some (.ref ma), some (.int ((r.getD k 0 : Nat) : Int)), none]) (H := H') (vs := [4]) (j := 4) (te := tCall (spD K (P2 fun p q => p - q)) [] E0 (tCons (tOp (rIx K) (tOp (rIx K) (tVar 0) (tVar 3)) (tVar 4)) (tCons (tTup (tCons (tCB (fun xs H Q => (∃ i, xs = [.int i] ∧ Q (.int i) H) ∨ ∃ k, xs = [.bl k] ∧ Q (.int (if k = true then 1 else 0)) H) (tCons (tOp (rEqD K) (tVar 3) (tVar 4)) tNil)) (tCons (tC (.int 1)) tNil))) tNil)))
        (gd := fun j => frD (stdA A r k j)) (src_tup (p_var (i := 1) rfl dv')).g (by rw [di_len]; omega) (fun j hj z H1 s1 dz => by
          rw [di_len] at hj
          rw [di_getD hj] at dz
          cases dz
          have hjn := R.lt _ (getD_in hj)
          refine n_call (a_cons (z_rowT (i := r.getD j 0) (z_matT (i := r.getD k 0) (z_var (i := 0) rfl (L2.Dp.mono s1 du')) (z_var (i := 3) rfl (.int _)) hkn) (z_var (i := 4) rfl (.int _)) hjn) (a_one (z_del (i := r.getD k 0) (j := r.getD j 0) (z_var (i := 3) rfl (.int _)) (z_var (i := 4) rfl (.int _))))) ⟨_, _, 16, 16, rfl, bA hkn hjn, bd_del, by decide, ?_⟩
          unfold stdA
          rw [if_pos hk])
      rw [di_len] at h
      exact h
    · obtain ⟨y3, rfl, I⟩ := p
      rw [di_len] at I
      have dv' := L2.Dp.mono I.same dv
      refine s_appS (K := K) (m := 2) (Hb := H) rfl nm I (by rw [tab_len]; omega) (d := rowL r.length (stdA A r r.length)) ?_ fun H5 I5 _ => ?_
      · have h := n_lcA (K := K) (σ := [some u, some v, some (.ref ma), y3, none]) (H := H') (vs := [4]) (j := 4) (te := tTup (tCons (tC (.int 1)) (tCons (tC (.int 1)) tNil))) (gd := fun j => frD (stdA A r r.length j)) (src_tup (p_var (i := 1) rfl dv')).g (by rw [di_len]; omega) (fun j hj z H1 s1 dz => by
          have e : stdA A r r.length j = 1 := by unfold stdA; rw [if_neg (Nat.lt_irrefl _)]
          rw [e]; exact n_one)
        rw [di_len] at h
        exact h
      rw [← tab_succ] at I5
      have dm5 : Dp K H5 (.ref ma) (matL (r.length + 1) r.length (stdA A r)) := (LcF.dn nm I5).dp
      have dv5 := L2.Dp.mono I5.same dv
      refine s_ret (K := K) (d := rowL r.length fun j => pi0 A r (r.getD j 0)) (n_call (a_cons (z_var (i := 2) rfl dm5) (a_one (En.ez ?_))) ⟨r.length + 1, r.length, stdA A r, stdb r, _, rfl, hl1, by omega, by omega, by omega, sys_std R t, siz_std R t hD hDs hdn, rfl⟩) fun v' H6 s6 d6 => q v' H6 (I5.same.trans s6) (Dn.anti I5.same d6)
      have h := n_lcA (K := K) (σ := [some u, some v, some (.ref ma), y3, none]) (H := H5) (vs := [4]) (j := 4) (te := tTup (tCons (tC (.int 0)) (tCons (tC (.int 1)) tNil))) (gd := fun j => frD (stdb r j)) (src_tup (p_var (i := 1) rfl dv5)).g (by rw [di_len]; omega) (fun j hj z H1 s1 dz => by
        rw [di_len] at hj
        have e : stdb r j = 0 := by unfold stdb; rw [if_pos hj]
        rw [e]; exact n_zero)
      rw [di_len] at h
      have h2 := n_cat (K := K) h (n_lst (an_cons n_one an_nil)) (flats_tab fun _ => rfl) rfl (by
        show (tab r.length _).length + 1 ≤ 1000
        rw [tab_len]; omega)
      have e : rowL (r.length + 1) (stdb r) = .list ((tab r.length fun j => frD (stdb r j)) ++ [frD 1]) := by
        unfold rowL
        rw [tab_succ]
        have e3 : stdb r r.length = 1 := by unfold stdb; rw [if_neg (Nat.lt_irrefl _)]
        rw [e3]
      rw [e]
      exact h2
abbrev s_comes_into : Stmt := topS 59
abbrev N_comes_into : List Str := ["table", "loose", "ring", "rows", "ends", "cask", "total", "into", "one"]
theorem sc_comes_into : FnScope N_comes_into ["table", "loose", "ring"] (defScope s_comes_into) := ⟨rfl, rfl, rfl, by decide +kernel, rfl, by decide +kernel, by decide +kernel⟩
theorem b_comes_into (T : Txt K mg) : Binds K (T.fd 41) ["table", "loose", "ring"] [] := (T.F 41 _ rfl).binds (ps := ["table", "loose", "ring"]) fun _ _ _ _ _ _ us hl => match us, hl with | [_, _, _], _ => rfl

def PCin : List PyData → PyData → Prop := fun ds x => ∃ (n : Nat) (A : Mx) (r : List Nat) (D : Nat), ds = [tabD n A, .list (di (loose n A)), ringD r] ∧ Tab n A ∧ n ≤ 5 ∧ r ∈ rgs n A ∧ 0 < D ∧ D < 2 ^ 16 ∧ (∀ i j, i < n → j < n → (A i j).den ∣ D) ∧ x = rowL (loose n A).length fun j => hh n A r ((loose n A).getD j 0)
theorem ok_comes_into (T : Txt K mg) : FnOk P w K mg base CX0 5 (T.fa 41) (T.fd 41) ["table", "loose", "ring"] (spD K PCin) := by
  refine okD (T.F 41 _ rfl) sc_comes_into (fun ds r h => ?_) (fun cdv A0 outer s H vs Q E ds r' hr hv hp q => ?_)
  · obtain ⟨_, _, _, _, rfl, _⟩ := h; rfl
  · obtain ⟨n, A, r, D, rfl, t, h5, hrm, hD, hDs, hdn, rfl⟩ := hp
    obtain ⟨u, v1, v, rfl, du, dv1, dv⟩ := three_of hv
    refine ⟨_, (pss_cons (ps_set (i := 3) sc_comes_into.nd rfl (Or.inl rfl) (pe_lst pa_nil))
      (pss_cons (ps_set (i := 4) sc_comes_into.nd rfl (Or.inl rfl) (pe_lst pa_nil))
      (pss_cons (ps_for PassesOwn.never rfl (pi_listK K (pv 1)) (pg_name (i := 5) sc_comes_into.nd rfl (Or.inr rfl))
       (pss_cons (ps_expr (pe_appK K (pv 3) (pa_cons (pe_lc (own := [("one", 8)])  rfl sc_comes_into.nd (pi_listK K (pv 1)) (blkOk_by (N := N_comes_into) (sc := defScope s_comes_into) (by decide +kernel)) (fun _ _ _ _ _ => (pg_name (i := 8) sc_comes_into.nd rfl (Or.inl rfl))) (fun _ _ _ _ _ => pts_nil) (fun _ _ _ _ _ => (pe_call (ok_less T) (hr.mono (by decide)) (by rfl) (T.g 9 _ rfl) (T.F 9 _ rfl).kp (b_less T) .nil pass0 (pa_cons (pe_tup (pa_cons (pe_callTy call_int1 (by rfl) (T.n "int") (by decide +kernel) (pa_cons (pe_cmpR (op_eqK K hr.units) (pv 8) (pv 5) (nomark _)) pa_nil)) (pa_cons pe_int pa_nil))) (pa_cons (pe_ix (ix_seqK K) (pe_ix (ix_seqK K) (pv 0) (pv 8) (fun _ _ => rfl)) (pv 5) (fun _ _ => rfl)) pa_nil))))) pa_nil)))
       (pss_cons (ps_set (i := 6) sc_comes_into.nd rfl (Or.inl rfl) (pe_tup (pa_cons pe_int (pa_cons pe_int pa_nil))))
       (pss_cons (ps_for PassesOwn.never rfl (pi_tupK K (pv 2)) (pg_name (i := 7) sc_comes_into.nd rfl (Or.inl rfl))
        (pss_one (ps_set (i := 6) sc_comes_into.nd rfl (Or.inl rfl) (pe_call (ok_plus T) (hr.mono (by decide)) (by rfl) (T.g 8 _ rfl) (T.F 8 _ rfl).kp (b_plus T) .nil pass0 (pa_cons (pv 6) (pa_cons (pe_ix (ix_seqK K) (pe_ix (ix_seqK K) (pv 0) (pv 7) (fun _ _ => rfl)) (pv 5) (fun _ _ => rfl)) pa_nil))))))
       (pss_one (ps_expr (pe_appK K (pv 4) (pa_cons (pv 6) pa_nil))))))))
      (pss_cons (ps_if (pt_cmpR (op_eqK K hr.units) (pv 1) (pe_lst pa_nil) (nomark _))
       (pss_one (ps_ret (pe_lst pa_nil)))
       pss_nil)
      (pss_one (ps_ret (pe_call (ok_only_point T) (hr.mono (by decide)) (by rfl) (T.g 15 _ rfl) (T.F 15 _ rfl).kp (b_only_point T) .nil pass0 (pa_cons (pv 3) (pa_cons (pv 4) pa_nil))))))))), ?_⟩
    have R := isRing hrm
    have nd := loose_nodup (n := n) (A := A)
    have llt : ∀ c ∈ loose n A, c < n := fun c hc => loose_lt hc
    have hlen : (loose n A).length ≤ n := nodup_len nd llt
    have hrl : r.length ≤ n := nodup_len R.nd R.lt
    have bA : ∀ {i j}, i < n → j < n → Bd 16 (A i j) := fun hi hj => bd_unit hD hDs (hdn _ _ hi hj) (t.nn _ _ hi hj) (t.le1 hi hj)
    refine s_setnil fun ma nm => ?_
    refine s_setnil fun ea ne => ?_
    have neH : H ea = none := (same_new (o := .lst []) nm).free ne
    have hem : ea ≠ ma := fun e => by rw [e, upd_same] at ne; cases ne
    have I0 : LcF K H (upd H ea (.lst [])) ma [] (upd (upd H ma (.lst [])) ea (.lst [])) := (LcF.start (K := K) nm).beside (o := .lst []) (o' := .lst []) ne
    have J0 : LcInv K H ea [] (upd (upd H ma (.lst [])) ea (.lst [])) := ⟨(same_new nm).trans (same_new ne), fun a e => (upd_none (upd_none e).2).2, fun _ e => e, [], upd_same, .nil⟩
    refine s_forHS (K := K) (Hb := H) (fun i σ' H' => ∃ y5 y6 y7 : Option V, σ' = [some u, some v1, some v, some (.ref ma), some (.ref ea), y5, y6, y7, none] ∧ LcF K H (upd H ea (.lst [])) ma (tab i fun k => rowL (loose n A).length (cinA A (loose n A) k)) H' ∧ LcInv K H ea (tab i fun k => frD (cinb A (loose n A) r k)) H')
      ((src_list (p_var (i := 1) rfl dv1)).h I0.same) ⟨none, none, none, rfl, I0, J0⟩ (fun i σ' H' p => ?_) (fun k σ' H' hk p x dx => ?_) (fun σ' H' p => ?_)
    · obtain ⟨_, _, _, _, _, J⟩ := p; exact J.same
    · obtain ⟨y5, y6, y7, rfl, I, J⟩ := p
      rw [di_len] at hk
      rw [di_getD hk] at dx
      cases dx
      have hkn := llt _ (getD_in hk)
      have du' := L2.Dp.mono I.same du
      have dv1' := L2.Dp.mono I.same dv1
      obtain ⟨macc, hmacc, _⟩ := id I.acc
      refine s_appS (K := K) (m := 3) (Hb := H) rfl nm I (by rw [tab_len]; omega) (d := rowL (loose n A).length (cinA A (loose n A) k)) ?_ fun H5 I5 sx5 => ?_
      · have h := n_lcA (K := K) (σ := [some u, some v1, some v, some (.ref ma), some (.ref ea), some (.int (((loose n A).getD k 0 : Nat) : Int)), y6, y7, none]) (H := H') (vs := [8]) (j := 8) (te := tCall (spD K (P2 fun p q => p - q)) [] E0 (tCons (tTup (tCons (tCB (fun xs H Q => (∃ i, xs = [.int i] ∧ Q (.int i) H) ∨ ∃ k, xs = [.bl k] ∧ Q (.int (if k = true then 1 else 0)) H) (tCons (tOp (rEqD K) (tVar 8) (tVar 5)) tNil)) (tCons (tC (.int 1)) tNil))) (tCons (tOp (rIx K) (tOp (rIx K) (tVar 0) (tVar 8)) (tVar 5)) tNil)))
          (gd := fun j => frD (cinA A (loose n A) k j)) (src_list (p_var (i := 1) rfl dv1')).g (by rw [di_len]; omega) (fun j hj z H1 s1 dz => by
            rw [di_len] at hj
            rw [di_getD hj] at dz
            cases dz
            have hjn := llt _ (getD_in hj)
            exact n_call (a_cons (z_del (i := (loose n A).getD j 0) (j := (loose n A).getD k 0) (z_var (i := 8) rfl (.int _)) (z_var (i := 5) rfl (.int _))) (a_one (z_rowT (i := (loose n A).getD k 0) (z_matT (i := (loose n A).getD j 0) (z_var (i := 0) rfl (L2.Dp.mono s1 du')) (z_var (i := 8) rfl (.int _)) hjn) (z_var (i := 5) rfl (.int _)) hkn))) ⟨_, _, 16, 16, rfl, bd_del, bA hjn hkn, by decide, rfl⟩)
        rw [di_len] at h
        exact h
      have J5 : LcInv K H ea (tab k fun k => frD (cinb A (loose n A) r k)) H5 := LcF.other J (flats_tab fun _ => rfl) nm hem hmacc sx5
      rw [← tab_succ] at I5
      -- total
      refine s_set (K := K) (d := frD (sm (rg 0) fun i => A (r.getD i 0) ((loose n A).getD k 0))) (z_tup (a_cons z_int (a_one z_int))) fun x6 H6 s6 d6 => ?_
      have I6 := LcF.same' I5 s6
      have J6 := LcF.same' J5 s6
      refine s_forHS (K := K) (Hb := H) (fun i σ' H' => ∃ (x6 : V) (y7 : Option V), σ' = [some u, some v1, some v, some (.ref ma), some (.ref ea), some (.int (((loose n A).getD k 0 : Nat) : Int)), some x6, y7, none] ∧ Same H6 H' ∧ Dp K H' x6 (frD (sm (rg i) fun i => A (r.getD i 0) ((loose n A).getD k 0))))
        ((src_tup (p_var (i := 2) rfl dv)).h I6.same) ⟨x6, y7, rfl, Same.refl _, d6⟩ (fun i σ' H' p => ?_) (fun i σ' H' hi p x dx => ?_) (fun σ' H' p => ?_)
      · obtain ⟨_, _, _, s', _⟩ := p; exact I6.same.trans s'
      · obtain ⟨x6, y7, rfl, s', d6⟩ := p
        rw [di_len] at hi
        rw [di_getD hi] at dx
        cases dx
        have hin := R.lt _ (getD_in hi)
        have fb : Fb D (i * 1) (sm (rg i) fun i => A (r.getD i 0) ((loose n A).getD k 0)) := Fb.sum hD i fun j hj => fb_of (hdn _ _ (R.lt _ (getD_in (by omega))) hkn) (t.nn _ _ (R.lt _ (getD_in (by omega))) hkn) (t.le1 (R.lt _ (getD_in (by omega))) hkn)
        have bt : Bd 20 (sm (rg i) fun i => A (r.getD i 0) ((loose n A).getD k 0)) := (fb.mono (Nat.dvd_refl _) (show i * 1 ≤ 8 by omega)).bd hD (by decide) (by
          have : 8 * D < 2 ^ 3 * 2 ^ 16 := by omega
          exact lt_pw (x := 19) this (by decide))
        refine s_set1 (K := K) (d := frD (sm (rg (i + 1)) fun i => A (r.getD i 0) ((loose n A).getD k 0))) (z_call (a_cons (z_var (i := 6) rfl d6) (a_one (z_rowT (i := (loose n A).getD k 0) (z_matT (i := r.getD i 0) (z_var (i := 0) rfl (L2.Dp.mono (I6.same.trans s') du)) (z_var (i := 7) rfl (.int _)) hin) (z_var (i := 5) rfl (.int _)) hkn))) ⟨_, _, 20, 16, rfl, bt, bA hin hkn, by decide, ?_⟩) fun x7 H7 s7 d7 => ⟨_, _, rfl, s'.trans s7, d7⟩
        rw [sm_range_succ]
      · obtain ⟨x6, y7, rfl, s', d6⟩ := p
        rw [di_len] at d6
        have I7 := LcF.same' I6 s'
        have J7 := LcF.same' J6 s'
        obtain ⟨eacc, heacc, _⟩ := id J7.acc
        have ec : (sm (rg r.length) fun i => A (r.getD i 0) ((loose n A).getD k 0)) = cinb A (loose n A) r k := by
          unfold cinb; exact sm_idx (l := r) (f := fun i => A i ((loose n A).getD k 0))
        rw [ec] at d6
        refine s_app (K := K) (m := 4) (Hb := H) rfl neH J7 (by rw [tab_len]; omega) (d := frD (cinb A (loose n A) r k)) (Ez.en (z_var (i := 6) rfl d6)) fun H8 J8 sx8 => ⟨_, _, _, rfl, LcF.otherL (o := .lst []) I7 upd_same neH (Ne.symm hem) heacc sx8, by rw [tab_succ]; exact J8⟩
    · obtain ⟨y5, y6, y7, rfl, I, J⟩ := p
      rw [di_len] at I J
      have dv1' := L2.Dp.mono I.same dv1
      have htest : Tz (tB (tOp (rEqD K) (tVar 1) (tLst tNil))) [some u, some v1, some v, some (.ref ma), some (.ref ea), y5, y6, y7, none] H' (di (loose n A)).isEmpty := by
        have h := z_eqD (K := K) (z_var (σ := [some u, some v1, some v, some (.ref ma), some (.ref ea), y5, y6, y7, none]) (i := 1) rfl dv1') (z_lst a_nil) shp_di.ok rfl
        rw [eqv_nil] at h
        exact t_val h
      by_cases hz : (loose n A).length = 0
      · have e0 : loose n A = [] := List.length_eq_zero_iff.mp hz
        refine s_if htest (fun _ H2 s2 => ?_) (fun hb => ?_)
        · have e : rowL (loose n A).length (fun j => hh n A r ((loose n A).getD j 0)) = .list [] := by rw [hz]; rfl
          rw [e] at q
          refine s_ret (K := K) (d := .list []) (n_lst an_nil) fun v' H6 s6 d6 => q v' H6 ((I.same.trans s2).trans s6) (Dn.anti (I.same.trans s2) d6)
        · rw [e0] at hb; cases hb
      · have hpos : 0 < (loose n A).length := by omega
        have hb : (di (loose n A)).isEmpty = false := by
          cases e : loose n A with
          | nil => rw [e] at hz; exact absurd rfl hz
          | cons a l => rfl
        rw [hb] at htest
        refine s_pass htest fun H2 s2 => ?_
        have I2 := LcF.same' I s2
        have J2 := LcF.same' J s2
        refine s_ret (K := K) (d := rowL (loose n A).length fun j => hh n A r ((loose n A).getD j 0)) (n_call (a_cons (z_var (i := 3) rfl (LcF.dn nm I2).dp) (a_one (z_var (i := 4) rfl (LcF.dn neH J2).dp))) ⟨(loose n A).length, (loose n A).length, cinA A (loose n A), cinb A (loose n A) r, _, rfl, by omega, Nat.le_refl _, by omega, by omega, sys_cin t, siz_cin R t hD hDs hdn, rfl⟩) fun v' H6 s6 d6 => q v' H6 (I2.same.trans s6) (Dn.anti I2.same d6)
end
end Ck
end

section
set_option Elab.async false
set_option linter.all false
set_option maxRecDepth 100000
set_option maxHeartbeats 4000000
/-! lists of lists that are changed in place; end_of. -/
namespace Ck
open PySem PySem.Spec PyProof.Rows L2
structure Grid (K : Fg) (Hb : Hp) (ma : Addr) (m n : Nat) (ra : Nat → Addr) (F : Mx) (H : Hp) : Prop where
  same : Same Hb H
  fm : Hb ma = none
  fr : ∀ i, i < m → Hb (ra i) = none
  nm : ∀ i, i < m → ra i ≠ ma
  inj : ∀ i j, i < m → j < m → ra i = ra j → i = j
  top : H ma = some (.lst ((rg m).map fun i => V.ref (ra i)))
  row : ∀ i, i < m → ∃ vs, H (ra i) = some (.lst vs) ∧ DpAll K H vs (tab n fun j => frD (F i j))
section
variable {K : Fg} {H Hb H' H1 H0 : Hp} {ma : Addr} {m n : Nat} {ra : Nat → Addr} {F G : Mx} {v : V} {d : PyData}
theorem Grid.same' (g : Grid K Hb ma m n ra F H) (s : Same H H') : Grid K Hb ma m n ra F H' :=
  ⟨g.same.trans s, g.fm, g.fr, g.nm, g.inj, s _ _ g.top, fun i hi => let ⟨vs, h1, h2⟩ := g.row i hi; ⟨vs, s _ _ h1, DpAll.mono s h2⟩⟩
theorem Grid.congr (g : Grid K Hb ma m n ra F H) (e : ∀ i j, i < m → j < n → F i j = G i j) : Grid K Hb ma m n ra G H :=
  ⟨g.same, g.fm, g.fr, g.nm, g.inj, g.top, fun i hi => by
    obtain ⟨vs, h1, h2⟩ := g.row i hi
    rw [tab_congr fun j hj => by rw [e i j hi hj]] at h2
    exact ⟨vs, h1, h2⟩⟩
theorem flats_upd {p : Addr} {o : HO} {ys : List V} {ds : List PyData} {vs : List V} (f : flatDs ds = true) (hp : H p = some (.lst ys)) (h : DpAll K H vs ds) : DpAll K (L2.upd H p o) vs ds := (dpAllN (H0 := H) (fun _ _ a => sqT_upd hp a) ds vs f h).dp
theorem Grid.set (g : Grid K Hb ma m n ra F H) {i j : Nat} (hi : i < m) {q : Rat} (dv : Dp K H v (frD q)) {vs : List V} (hvs : H (ra i) = some (.lst vs)) : Grid K Hb ma m n ra (fun a b => if a = i ∧ b = j then q else F a b) (upd H (ra i) (.lst (vs.set j v))) := by
  refine ⟨fun b o z => ?_, g.fm, g.fr, g.nm, g.inj, ?_, fun k hk => ?_⟩
  · rw [upd_ne (ne_of_none z (g.fr i hi))]; exact g.same _ _ z
  · rw [upd_ne (Ne.symm (g.nm i hi))]; exact g.top
  · obtain ⟨ws, h1, h2⟩ := g.row k hk
    by_cases e : k = i
    · subst e
      rw [hvs] at h1
      cases h1
      refine ⟨_, upd_same, ?_⟩
      have h3 := DpAll.setAt (i := j) h2 dv
      rw [tab_set] at h3
      have h4 := flats_upd (o := .lst (vs.set j v)) (flats_tab fun i => by split <;> rfl) hvs h3
      rw [tab_congr fun b hb => ?_]
      · exact h4
      · by_cases e : b = j
        · rw [if_pos e, if_pos ⟨rfl, e⟩]
        · rw [if_neg e, if_neg fun z => e z.2]
    · refine ⟨ws, by rw [upd_ne fun z => e (g.inj k i hk hi z)]; exact h1, ?_⟩
      have h4 := flats_upd (o := .lst (vs.set j v)) (flats_tab fun _ => rfl) hvs h2
      rw [tab_congr fun b hb => by rw [if_neg fun z => e z.1]]
      exact h4
theorem Grid.dp (g : Grid K Hb ma m n ra F H) : Dp K H (.ref ma) (matL m n F) := by
  refine .lst (SqL.of g.top) ?_
  have h : ∀ k, k ≤ m → DpAll K H ((rg k).map fun i => V.ref (ra i)) (tab k fun i => rowL n (F i)) := by
    intro k
    induction k with
    | zero => intro _; exact .nil
    | succ k ih =>
      intro hk
      rw [tab_succ, show rg (k + 1) = rg k ++ [k] from List.range_succ, List.map_append]
      obtain ⟨vs, h1, h2⟩ := g.row k (by omega)
      exact DpAll.app (ih (by omega)) (DpAll.one (.lst (SqL.of h1) h2))
  exact h m (Nat.le_refl _)
/-! without the rows -/
open Classical in
noncomputable def hidS (ma : Addr) (m : Nat) (ra : Nat → Addr) (H : Hp) : Hp := fun b => if b = ma ∨ ∃ i, i < m ∧ b = ra i then none else H b
theorem hidS_same : Same (hidS ma m ra H) H := fun b o e => by
  unfold hidS at e
  split at e
  · cases e
  · exact e
theorem hidS_no {b : Addr} (h : ¬ (b = ma ∨ ∃ i, i < m ∧ b = ra i)) : hidS ma m ra H b = H b := by unfold hidS; rw [if_neg h]
theorem Grid.base (g : Grid K Hb ma m n ra F H) : Same Hb (hidS ma m ra H) := fun b o e => by
  rw [hidS_no]
  · exact g.same _ _ e
  · rintro (h | ⟨i, hi, h⟩)
    · rw [h, g.fm] at e; cases e
    · rw [h, g.fr i hi] at e; cases e
theorem Grid.rebase (g : Grid K Hb ma m n ra F H) : Grid K (hidS ma m ra H) ma m n ra F H :=
  ⟨hidS_same, by unfold hidS; rw [if_pos (.inl rfl)], fun i hi => by unfold hidS; rw [if_pos (.inr ⟨i, hi, rfl⟩)], g.nm, g.inj, g.top, g.row⟩
theorem Grid.back {Hc : Hp} (g : Grid K Hc ma m n ra F H) (s : Same Hb Hc) : Grid K Hb ma m n ra F H :=
  ⟨s.trans g.same, s.free g.fm, fun i hi => s.free (g.fr i hi), g.nm, g.inj, g.top, g.row⟩
/-- what has come behind the rows does not lie in them -/
theorem Grid.out (g : Grid K Hb ma m n ra F H0) (s : Same H0 H) (h : Dn K H0 H v d) : Dp K (hidS ma m ra H) v d := by
  have gH := g.same' s
  have nin : ∀ {a : Addr}, H0 a = none → ¬ (a = ma ∨ ∃ i, i < m ∧ a = ra i) := fun e q => by
    rcases q with q | ⟨i, hi, q⟩
    · rw [q, g.top] at e; cases e
    · obtain ⟨_, h1, _⟩ := g.row i hi
      rw [q, h1] at e; cases e
  refine (h.mv (H0' := H0) (H' := hidS ma m ra H) (fun a xs q => ?_) fun a xs z1 z2 => ⟨z1, by rw [hidS_no (nin z1)]; exact z2⟩).dp
  have nl : ∀ {o : HO}, H a = some o → (∀ ys, o ≠ .lst ys) → hidS ma m ra H a = some o := fun {o} e ho => by
    rw [hidS_no, e]
    rintro (q | ⟨i, hi, q⟩)
    · rw [q, gH.top] at e; cases e; exact ho _ rfl
    · obtain ⟨_, h1, _⟩ := gH.row i hi
      rw [q, h1] at e; cases e; exact ho _ rfl
  rcases q with (q | ⟨o', q⟩) | q
  · exact .inl (.inl (nl q fun _ z => by cases z))
  · exact .inl (.inr ⟨o', nl q fun _ z => by cases z⟩)
  · exact .inr q
end
section
variable {P : Program} {w : World} {K : Fg} {mg : Str → Option Value} {base : Heap}
section
variable {σ : L2.St} {H Hb : Hp} {ta tb te ti tj : TE} {wi : TI} {D : Ends} {rest : TS}
/-- [[..] for ..], to be changed in place -/
theorem grid_lc {j m n : Nat} {vs : List Nat} {it : Nat → PyData} {F : Mx} {Q : VK} (hs : SrcG K wi σ H m it) (hn : m ≤ 1000)
    (he : ∀ i, i < m → ∀ x H1, Same H H1 → Dp K H1 x (it i) → En K te ((wipe σ vs).set j (some x)) H1 (rowL n (F i))) (q : ∀ ma ra H', Grid K H ma m n ra F H' → Q (.ref ma) H')
    (hw : ∀ x : V, wipe ((wipe σ vs).set j (some x)) vs = wipe σ vs := by intro _; rfl) : tLc wi (gName j) tYes te vs σ H Q := by
  refine hs H (Same.refl _) _ fun J H2 s2 sa D hD => ?_
  have hDH := s2.free hD
  refine ⟨fun i k Hc => k = m - i ∧ i ≤ m ∧ Same H2 Hc ∧ ∃ ra, Grid K H D i n ra F Hc, ⟨m, by simp, Nat.zero_le _, same_new hD, fun _ => D, ?_⟩, ?_⟩
  · exact ⟨s2.trans (same_new hD), hDH, fun i hi => absurd hi (Nat.not_lt_zero _), fun i hi => absurd hi (Nat.not_lt_zero _), fun i _ hi => absurd hi (Nat.not_lt_zero _), upd_same, fun i hi => absurd hi (Nat.not_lt_zero _)⟩
  rintro i k Hc ⟨rfl, hi, sH2, ra, g⟩
  by_cases hlt : i < m
  · refine .inr ⟨sa.go Hc i sH2 hlt, fun Hn => Same H2 Hn ∧ ∃ ra, Grid K H D (i + 1) n ra F Hn, fun Hn z => ⟨m - (i + 1), by omega, rfl, hlt, z⟩, fun x H' y => ?_⟩
    obtain ⟨e, dx⟩ := sa.yld Hc i x H' sH2 hlt y
    subst e
    refine ⟨hw x, ?_⟩
    refine (?_ : tYes _ _ _)
    refine t_yes H' (Same.refl _) _ fun H3 s3 => ?_
    rw [if_pos rfl]
    have g3 := g.same' s3
    refine he i hlt x H3 g3.same (L2.Dp.mono (sH2.trans s3) dx) H3 (Same.refl _) _ fun z H4 s4 dz => ?_
    have g4 := g3.same' s4
    cases dz with
    | lst hn0 hl ha =>
      rename_i r xs
      have hrD : r ≠ D := fun e => by rw [e, g3.top] at hn0; cases hn0
      have hra : ∀ k, k < i → r ≠ ra k := fun k hk e => by
        obtain ⟨_, h1, _⟩ := g3.row k hk
        rw [e, h1] at hn0; cases hn0
      refine ⟨_, g4.top, by rw [List.length_map, List.length_range]; exact Nat.lt_of_lt_of_le (show i < 1000 by omega) (by decide), fun b o z => ?_, fun k => if k = i then r else ra k, ?_⟩
      · rw [upd_ne (ne_of_none z hD)]; exact s4 _ _ (s3 _ _ (sH2 _ _ z))
      have e1 : ∀ k, k < i → (if k = i then r else ra k) = ra k := fun k hk => if_neg (by omega)
      refine ⟨fun b o z => ?_, hDH, fun k hk => ?_, fun k hk => ?_, fun k l hk hl e => ?_, ?_, fun k hk => ?_⟩
      · rw [upd_ne (ne_of_none z hDH)]; exact g4.same _ _ z
      · show H (if k = i then r else ra k) = none
        split
        · exact g3.same.free hn0
        · exact g.fr k (by omega)
      · show (if k = i then r else ra k) ≠ D
        split
        · exact hrD
        · exact g.nm k (by omega)
      · have e : (if k = i then r else ra k) = (if l = i then r else ra l) := e
        by_cases hk1 : k = i
        · by_cases hl1 : l = i
          · omega
          · rw [if_pos hk1, if_neg hl1] at e
            exact absurd e (hra l (by omega))
        · by_cases hl1 : l = i
          · rw [if_neg hk1, if_pos hl1] at e
            exact absurd e.symm (hra k (by omega))
          · rw [if_neg hk1, if_neg hl1] at e
            exact g.inj k l (by omega) (by omega) e
      · rw [upd_same]
        congr 2
        rw [show rg (i + 1) = rg i ++ [i] from List.range_succ, List.map_append]
        congr 1
        · exact List.map_congr_left fun k hk => by rw [e1 k (List.mem_range.mp hk)]
        · show [_] = [V.ref (if i = i then r else ra i)]
          rw [if_pos rfl]
      · by_cases hk1 : k = i
        · subst hk1
          rw [if_pos rfl]
          exact ⟨xs, by rw [upd_ne hrD]; exact hl, flats_upd (flats_tab fun _ => rfl) g4.top ha.dp⟩
        · obtain ⟨ws, h1, h2⟩ := g4.row k (by omega)
          rw [if_neg hk1]
          exact ⟨ws, by rw [upd_ne (g.nm k (by omega))]; exact h1, flats_upd (flats_tab fun _ => rfl) g4.top h2⟩
  · have e : i = m := by omega
    subst e
    exact .inl ⟨sa.stop Hc sH2, q D ra Hc g⟩
theorem s_grid {i j m n : Nat} {vs : List Nat} {it : Nat → PyData} (F : Mx) (hs : SrcG K wi σ H m it) (hn : m ≤ 1000)
    (he : ∀ i, i < m → ∀ x H1, Same H H1 → Dp K H1 x (it i) → En K te ((wipe σ vs).set j (some x)) H1 (rowL n (F i))) (q : ∀ ma ra H', Grid K H ma m n ra F H' → rest D (σ.set i (some (.ref ma))) H')
    (hw : ∀ x : V, wipe ((wipe σ vs).set j (some x)) vs = wipe σ vs := by intro _; rfl) : tSeq (tAsg (tLc wi (gName j) tYes te vs) (gName i)) rest D σ H :=
  (grid_lc (Q := fun v H' => rest D (σ.set i (some v)) H') hs hn he q hw : _)
/-- made[i][j] = e -/
theorem s_setgrid {s m n i j : Nat} {ma : Addr} {ra : Nat → Addr} {F : Mx} {q : Rat} (hm : σ[s]? = some (some (.ref ma))) (g : Grid K Hb ma m n ra F H) (hi : i < m) (hj : j < n) (he : Ez K te σ H (frD q)) (hti : ∀ H2, Same H H2 → Ez K ti σ H2 (.int (i : Int))) (htj : ∀ H2, Same H H2 → Ez K tj σ H2 (.int (j : Int)))
    (k : ∀ H', Grid K Hb ma m n ra (fun a b => if a = i ∧ b = j then q else F a b) H' → D.nx σ H') : tAsg te (gSub (tOp (rIx K) (tVar s) ti) tj rSetL) D σ H := by
  refine he H (Same.refl _) _ fun v H2 s2 dv => ?_
  have g2 := g.same' s2
  refine v_get hm g2.top (hti H2 s2) (v := .ref (ra i)) (by rw [List.getElem?_map, List.getElem?_range hi]; rfl) fun H3 s3 => ?_
  refine htj H3 (s2.trans s3) H3 (Same.refl _) _ fun y H4 s4 dy => ?_
  cases dy
  have g4 := g2.same' (s3.trans s4)
  obtain ⟨vs, h1, h2⟩ := g4.row i hi
  refine ⟨ra i, vs, j, j, rfl, rfl, h1, ixN_nat (by rw [h2.len, tab_len]; exact hj), k _ (g4.set hi (L2.Dp.mono (s3.trans s4) dv) h1)⟩
/-- [cask for ring in rings for cask in ring] -/
theorem n_flat {j k : Nat} {vs vs1 : List Nat} {l : List (List Nat)} (hs : Src1 K wi σ H l.length fun i => ringD (l.getD i [])) (hl : l.flatten.length ≤ 1000)
    (hw : ∀ x : V, wipe ((wipe σ vs).set j (some x)) vs = wipe σ vs := by intro _; rfl) (hw2 : ∀ x y : V, wipe ((wipe ((wipe σ vs).set j (some x)) vs1).set k (some y)) vs1 = wipe ((wipe σ vs).set j (some x)) vs1 := by intro _ _; rfl)
    (hjv : ∀ x : V, ((wipe σ vs).set j (some x))[j]? = some (some x) := by intro _; rfl) (hkv : ∀ x y : V, ((wipe ((wipe σ vs).set j (some x)) vs1).set k (some y))[k]? = some (some y) := by intro _ _; rfl) :
    En K (tLc2 wi (gName j) tYes (iTup K (tVar j)) (gName k) tYes (tVar k) vs vs1) σ H (.list (di l.flatten)) := by
  intro H1 s Q q
  refine hs H1 s _ fun J sa D hD => ?_
  refine ⟨fun i m Hc => m = l.length - i ∧ i ≤ l.length ∧ Same H1 Hc ∧ Hc D = some (.lst (vi (l.take i).flatten)), ⟨l.length, by simp, Nat.zero_le _, same_new hD, by rw [upd_same]; rfl⟩, ?_⟩
  rintro i m Hc ⟨rfl, hi, sc, hc⟩
  by_cases hlt : i < l.length
  · refine .inr ⟨sa.go Hc i (s.trans sc) hlt, fun Hn => Same H1 Hn ∧ Hn D = some (.lst (vi (l.take (i + 1)).flatten)), fun Hn z => ⟨l.length - (i + 1), by omega, rfl, hlt, z⟩, fun x H' y => ?_⟩
    obtain ⟨e, dx⟩ := sa.yld Hc i x H' (s.trans sc) hlt y
    subst e
    refine ⟨hw x, ?_⟩
    refine t_yes H' (Same.refl _) _ fun H3 s3 => ?_
    rw [if_pos rfl]
    have hli : l.getD i [] = l[i] := by rw [List.getD_eq_getElem?_getD, List.getElem?_eq_getElem hlt]; rfl
    rw [hli] at dx
    have htk : (l.take (i + 1)).flatten = (l.take i).flatten ++ l[i] := by rw [List.take_succ_eq_append_getElem hlt, List.flatten_append]; simp
    have hle : ((l.take i).flatten ++ l[i]).length ≤ 1000 := by
      rw [← htk]
      have : (l.take (i + 1)).flatten.length ≤ l.flatten.length := by
        conv => rhs; rw [← List.take_append_drop (i + 1) l, List.flatten_append, List.length_append]
        omega
      omega
    refine src_tup (K := K) (σ := (wipe σ vs).set j (some x)) (te := tVar j) (p_var (hjv x) dx) H3 ((s.trans sc).trans s3) _ fun J1 sb => ?_
    rw [di_len] at sb
    refine ⟨fun b k' Hc => k' = l[i].length - b ∧ b ≤ l[i].length ∧ Same H1 Hc ∧ Hc D = some (.lst (vi ((l.take i).flatten ++ (l[i]).take b))), ⟨l[i].length, by simp, Nat.zero_le _, sc.trans s3, by rw [List.take_zero, List.append_nil]; exact s3 _ _ hc⟩, ?_⟩
    rintro b k' Hd ⟨rfl, hb, sd, hd⟩
    by_cases hlb : b < l[i].length
    · refine .inr ⟨sb.go Hd b (s.trans sd) hlb, fun Hn => Same H1 Hn ∧ Hn D = some (.lst (vi ((l.take i).flatten ++ (l[i]).take (b + 1)))), fun Hn z => ⟨l[i].length - (b + 1), by omega, rfl, hlb, z⟩, fun y H' yy => ?_⟩
      obtain ⟨e, dy⟩ := sb.yld Hd b y H' (s.trans sd) hlb yy
      subst e
      rw [di_getD hlb] at dy
      cases dy
      refine ⟨hw2 x _, ?_⟩
      refine t_yes H' (Same.refl _) _ fun H5 s5 => ?_
      rw [if_pos rfl]
      have hbl : ((l.take i).flatten ++ (l[i]).take b).length < 1000 := by
        rw [List.length_append] at hle ⊢
        rw [List.length_take]; omega
      refine ⟨_, hkv x _, _, s5 _ _ hd, by rw [vi_len]; exact Nat.lt_of_lt_of_le hbl (by decide), fun b' o z => ?_, ?_⟩
      · rw [upd_ne (ne_of_none z hD)]; exact s5 _ _ (sd _ _ z)
      · rw [upd_same]
        have e3 : (l[i]).take (b + 1) = (l[i]).take b ++ [(l[i]).getD b 0] := by
          rw [List.take_succ_eq_append_getElem hlb, List.getD_eq_getElem?_getD, List.getElem?_eq_getElem hlb]; rfl
        rw [e3, ← List.append_assoc]
        unfold vi
        rw [List.map_append (l₂ := [(l[i]).getD b 0])]; rfl
    · have e : b = l[i].length := by omega
      subst e
      rw [List.take_length] at hd
      refine .inl ⟨sb.stop Hd (s.trans sd), sd, ?_⟩
      rw [htk]; exact hd
  · have e : i = l.length := by omega
    subst e
    rw [List.take_length] at hc
    exact .inl ⟨sa.stop Hc (s.trans sc), q _ _ sc (.lst hD hc vi_dn)⟩
end
end
end Ck
end

section
set_option Elab.async false
set_option linter.all false
set_option maxRecDepth 100000
set_option maxHeartbeats 4000000
/-! end_of. -/
namespace Ck
open PySem PySem.Spec PyProof.Rows L2
/-- the table of ends, part made: k casks of the ring, and of the next the columns S -/
noncomputable def enT (n : Nat) (A : Mx) (a : Nat) : Mx := fun i c => sm ((rgs n A).take a) fun r => pve A r i * wve n A r c
open Classical in
noncomputable def enG (n : Nat) (A : Mx) (a : Nat) (r : List Nat) (k : Nat) (S : List Nat) : Mx := fun i c => if i ∈ r.take k ∨ (i = r.getD k 0 ∧ c ∈ S) then pi0 A r i * wve n A r c else enT n A a i c
theorem take_getD {l : List Nat} {k : Nat} (hk : k < l.length) : l.take (k + 1) = l.take k ++ [l.getD k 0] := by
  rw [List.take_succ_eq_append_getElem hk, List.getD_eq_getElem?_getD, List.getElem?_eq_getElem hk]; rfl
theorem getD_not_take {l : List Nat} (nd : l.Nodup) {k : Nat} (hk : k < l.length) : l.getD k 0 ∉ l.take k := fun h => by
  have h1 := nd.sublist (List.take_sublist (k + 1) l)
  rw [take_getD hk] at h1
  exact (List.nodup_append.mp h1).2.2 _ h _ (by simp) rfl
section
variable {n a k : Nat} {A : Mx} {r S : List Nat}
theorem enT_ring (ha : a < (rgs n A).length) (e : (rgs n A)[a] = r) {i : Nat} (hi : i ∈ r) (c : Nat) : enT n A a i c = 0 := by
  unfold enT
  refine sm_zero fun s hs => ?_
  have hne : s ≠ r := fun q => by
    have h1 := (rgs_nodup (n := n) (A := A)).sublist (List.take_sublist (a + 1) _)
    rw [List.take_succ_eq_append_getElem ha, e] at h1
    exact (List.nodup_append.mp h1).2.2 s hs r (by simp) q
  have hr : r ∈ rgs n A := by rw [← e]; exact List.getElem_mem ha
  have h2 : i ∉ s := fun q => hne (ring_same (List.mem_of_mem_take hs) hr q hi)
  unfold pve
  rw [if_neg h2]; grind
theorem enG_set (c0 : Nat) (hk : r.getD k 0 ∉ r.take k) : (fun i c => if i = r.getD k 0 ∧ c = c0 then pi0 A r (r.getD k 0) * wve n A r c0 else enG n A a r k S i c) = enG n A a r k (S ++ [c0]) := by
  funext i c
  unfold enG
  by_cases h1 : i = r.getD k 0
  · by_cases h2 : c = c0
    · rw [if_pos ⟨h1, h2⟩, if_pos (.inr ⟨h1, by rw [h2]; simp⟩), h1, h2]
    · rw [if_neg fun z => h2 z.2]
      have e : (i ∈ r.take k ∨ i = r.getD k 0 ∧ c ∈ S) ↔ (i ∈ r.take k ∨ i = r.getD k 0 ∧ c ∈ S ++ [c0]) := by simp [h2]
      by_cases q : i ∈ r.take k ∨ i = r.getD k 0 ∧ c ∈ S
      · rw [if_pos q, if_pos (e.mp q)]
      · rw [if_neg q, if_neg fun z => q (e.mpr z)]
  · rw [if_neg fun z => h1 z.1]
    have e : (i ∈ r.take k ∨ i = r.getD k 0 ∧ c ∈ S) ↔ (i ∈ r.take k ∨ i = r.getD k 0 ∧ c ∈ S ++ [c0]) := ⟨fun z => z.elim .inl fun z => absurd z.1 h1, fun z => z.elim .inl fun z => absurd z.1 h1⟩
    by_cases q : i ∈ r.take k ∨ i = r.getD k 0 ∧ c ∈ S
    · rw [if_pos q, if_pos (e.mp q)]
    · rw [if_neg q, if_neg fun z => q (e.mpr z)]
theorem enG_row (ha : a < (rgs n A).length) (e : (rgs n A)[a] = r) (hk : k < r.length) : enG n A a r k (r ++ loose n A) = enG n A a r (k + 1) [] := by
  funext i c
  unfold enG
  have e1 : (i ∈ r.take (k + 1) ∨ i = r.getD (k + 1) 0 ∧ c ∈ ([] : List Nat)) ↔ (i ∈ r.take k ∨ i = r.getD k 0) := by
    rw [take_getD hk]; simp
  by_cases h1 : i ∈ r.take k
  · rw [if_pos (.inl h1), if_pos (e1.mpr (.inl h1))]
  · by_cases h2 : i = r.getD k 0
    · rw [if_pos (e1.mpr (.inr h2))]
      by_cases h3 : c ∈ r ++ loose n A
      · rw [if_pos (.inr ⟨h2, h3⟩)]
      · rw [if_neg fun z => z.elim h1 fun z => h3 z.2]
        have hir : i ∈ r := by rw [h2]; exact getD_in hk
        rw [enT_ring ha e hir]
        have q1 : c ∉ r := fun q => h3 (List.mem_append_left _ q)
        have q2 : c ∉ loose n A := fun q => h3 (List.mem_append_right _ q)
        unfold wve
        rw [if_neg q1, if_neg q2]; grind
    · rw [if_neg fun z => z.elim h1 fun z => h2 z.1, if_neg fun z => (e1.mp z).elim h1 h2]
theorem enG_ring (ha : a < (rgs n A).length) (e : (rgs n A)[a] = r) : enG n A a r r.length [] = enT n A (a + 1) := by
  funext i c
  have e2 : enT n A (a + 1) i c = enT n A a i c + pve A r i * wve n A r c := by
    unfold enT
    rw [List.take_succ_eq_append_getElem ha, sm_append, e, sm_cons, sm_nil]; grind
  unfold enG
  rw [List.take_length, e2]
  by_cases h : i ∈ r
  · rw [if_pos (.inl h), enT_ring ha e h]
    unfold pve
    rw [if_pos h]; grind
  · rw [if_neg fun z => z.elim h fun z => by simpa using z.2]
    unfold pve
    rw [if_neg h]; grind
theorem enG_start (ha : a < (rgs n A).length) (e : (rgs n A)[a] = r) : enG n A a r 0 [] = enT n A a := by
  funext i c
  unfold enG
  rw [if_neg fun z => z.elim (fun q => by simp at q) fun z => by simpa using z.2]
theorem enT_zero : enT n A 0 = fun _ _ => 0 := rfl
theorem enT_all : enT n A (rgs n A).length = En0 n A := by
  funext i c
  unfold enT En0
  rw [List.take_length]
end
theorem pi0_le {n : Nat} {A : Mx} {r : List Nat} (R : IsRing n A r) (t : Tab n A) {i : Nat} (hi : i ∈ r) : pi0 A r i ≤ 1 := by
  have S := pi_spec R t
  rw [← S.one]; exact sm_ge_one hi S.nn
theorem hh_le {n : Nat} {A : Mx} {r : List Nat} (hr : r ∈ rgs n A) (t : Tab n A) {c : Nat} (hc : c ∈ loose n A) : hh n A r c ≤ 1 := by
  have h1 := wve_le t (loose_lt hc)
  have h2 : wve n A r c ≤ sm (rgs n A) (fun s => wve n A s c) := sm_ge_one (f := fun s => wve n A s c) hr fun s hs => wve_nn (isRing hs) t c
  have e : wve n A r c = hh n A r c := by unfold wve; rw [if_neg ((mem_loose.mp hc).2 r hr), if_pos hc]
  rw [e] at h2
  exact Rat.le_trans h2 h1
section
variable {P : Program} {w : World} {K : Fg} {mg : Str → Option Value} {base : Heap}
abbrev s_end_of : Stmt := topS 60
abbrev N_end_of : List Str := ["table", "circles", "bound", "loose", "made", "ring", "shares", "parts", "k", "cask", "j", "row"]
theorem sc_end_of : FnScope N_end_of ["table"] (defScope s_end_of) := ⟨rfl, rfl, rfl, by decide +kernel, rfl, by decide +kernel, by decide +kernel⟩
theorem b_end_of (T : Txt K mg) : Binds K (T.fd 42) ["table"] [] := (T.F 42 _ rfl).binds (ps := ["table"]) fun _ _ _ _ _ _ us hl => match us, hl with | [_], _ => rfl

def PEnd : List PyData → PyData → Prop := fun ds x => ∃ (n : Nat) (A : Mx) (D : Nat), ds = [tabD n A] ∧ Tb n A ∧ 0 < D ∧ D < 2 ^ 16 ∧ (∀ i j, i < n → j < n → (A i j).den ∣ D) ∧ x = tabD n (En0 n A)
theorem ok_end_of (T : Txt K mg) : FnOk P w K mg base CX0 9 (T.fa 42) (T.fd 42) ["table"] (spD K PEnd) := by
  refine okD (T.F 42 _ rfl) sc_end_of (fun ds r h => ?_) (fun cdv A0 outer s H vs Q E ds r' hr hv hp q => ?_)
  · obtain ⟨_, _, _, rfl, _⟩ := h; rfl
  · obtain ⟨n, A, D, rfl, tb, hD, hDs, hdn, rfl⟩ := hp
    obtain ⟨u, rfl, du⟩ := one_of hv
    refine ⟨_, (pss_cons (ps_set (i := 1) sc_end_of.nd rfl (Or.inl rfl) (pe_call (ok_rings T) (hr.mono (by decide)) (by rfl) (T.g 37 _ rfl) (T.F 37 _ rfl).kp (b_rings T) .nil pass0 (pa_cons (pv 0) pa_nil)))
      (pss_cons (ps_set (i := 2) sc_end_of.nd rfl (Or.inr rfl) (pe_lc2 (own := [("ring", 5), ("cask", 9)]) (vs1 := [9]) rfl sc_end_of.nd (pi_listK K (pv 1)) (blkOk_by (N := N_end_of) (sc := defScope s_end_of) (by decide +kernel)) (by decide) (fun _ _ _ _ _ => (pg_name (i := 5) sc_end_of.nd rfl (Or.inl rfl))) (fun _ _ _ _ _ => pts_nil) (fun _ _ _ _ _ => (pi_tupK K (pv 5))) (fun _ _ _ _ _ => (pg_name (i := 9) sc_end_of.nd rfl (Or.inl rfl))) (fun _ _ _ _ _ => pts_nil) (fun _ _ _ _ _ => (pv 9))))
      (pss_cons (ps_setLc (i := 3) (own := [("cask", 9)])  rfl sc_end_of.nd rfl rfl (sw_true rfl rfl rfl (by decide +kernel)) (pi_range1 (by rfl) (T.n "range") (pa_cons (pe_callB (call_lenK K) (by rfl) (T.n "len") PySem.boot_len (pa_cons (pv 0) pa_nil)) pa_nil)) (blkOk_by (N := N_end_of) (sc := defScope s_end_of) (by decide +kernel)) (fun _ _ _ _ _ => (pg_name (i := 9) sc_end_of.nd rfl (Or.inl rfl))) (fun _ _ _ _ _ => (pts_one (pt_cmpR (op_notInK K) (pv 9) (pv 2) (by rfl)))) (fun _ _ _ _ _ => (pv 9)))
      (pss_cons (ps_setLc (i := 4) (own := [("row", 11)])  rfl sc_end_of.nd rfl rfl (sw_true rfl rfl rfl (by decide +kernel)) (pi_tupK K (pv 0)) (blkOk_by (N := N_end_of) (sc := defScope s_end_of) (by decide +kernel)) (fun _ _ _ _ _ => (pg_name (i := 11) sc_end_of.nd rfl (Or.inl rfl))) (fun _ _ _ _ _ => pts_nil) (fun _ _ _ _ _ => (pe_lc (own := [("cask", 9)])  rfl sc_end_of.nd (pi_tupK K (pv 0)) (blkOk_by (N := N_end_of) (sc := (relS ({ kind := PySem.ScopeKind.function, names := [ (PySem.Str.ofString ".0", PySem.NameKind.local), (PySem.Str.ofString "row", PySem.NameKind.local), (PySem.Str.ofString "table", PySem.NameKind.free)], isGenerator := false, isCoroutine := false, more := [] : PySem.Scope }) (defScope s_end_of))) (by decide +kernel)) (fun _ _ _ _ _ => (pg_name (i := 9) sc_end_of.nd rfl (Or.inl rfl))) (fun _ _ _ _ _ => pts_nil) (fun _ _ _ _ _ => (pe_tup (pa_cons pe_int (pa_cons pe_int pa_nil)))))))
      (pss_cons (ps_for PassesOwn.never rfl (pi_listK K (pv 1)) (pg_name (i := 5) sc_end_of.nd rfl (Or.inl rfl))
       (pss_cons (ps_set (i := 6) sc_end_of.nd rfl (Or.inl rfl) (pe_call (ok_standing T) (hr.mono (by decide)) (by rfl) (T.g 40 _ rfl) (T.F 40 _ rfl).kp (b_standing T) .nil pass0 (pa_cons (pv 0) (pa_cons (pv 5) pa_nil))))
       (pss_cons (ps_set (i := 7) sc_end_of.nd rfl (Or.inl rfl) (pe_call (ok_comes_into T) (hr.mono (by decide)) (by rfl) (T.g 41 _ rfl) (T.F 41 _ rfl).kp (b_comes_into T) .nil pass0 (pa_cons (pv 0) (pa_cons (pv 3) (pa_cons (pv 5) pa_nil)))))
       (pss_one (ps_for PassesOwn.never rfl (pi_range1 (by rfl) (T.n "range") (pa_cons (pe_callB (call_lenK K) (by rfl) (T.n "len") PySem.boot_len (pa_cons (pv 5) pa_nil)) pa_nil)) (pg_name (i := 8) sc_end_of.nd rfl (Or.inl rfl))
        (pss_cons (ps_for PassesOwn.never rfl (pi_tupK K (pv 5)) (pg_name (i := 9) sc_end_of.nd rfl (Or.inl rfl))
         (pss_one (ps_asg (pe_ix (ix_seqK K) (pv 6) (pv 8) (fun _ _ => rfl)) (pg_sub (pe_ix (ix_seqK K) (pv 4) (pe_ix (ix_seqK K) (pv 5) (pv 8) (fun _ _ => rfl)) (fun _ _ => rfl)) (pv 9) set_list))))
        (pss_one (ps_for PassesOwn.never rfl (pi_range1 (by rfl) (T.n "range") (pa_cons (pe_callB (call_lenK K) (by rfl) (T.n "len") PySem.boot_len (pa_cons (pv 3) pa_nil)) pa_nil)) (pg_name (i := 10) sc_end_of.nd rfl (Or.inl rfl))
         (pss_one (ps_asg (pe_call (ok_times T) (hr.mono (by decide)) (by rfl) (T.g 10 _ rfl) (T.F 10 _ rfl).kp (b_times T) .nil pass0 (pa_cons (pe_ix (ix_seqK K) (pv 6) (pv 8) (fun _ _ => rfl)) (pa_cons (pe_ix (ix_seqK K) (pv 7) (pv 10) (fun _ _ => rfl)) pa_nil))) (pg_sub (pe_ix (ix_seqK K) (pv 4) (pe_ix (ix_seqK K) (pv 5) (pv 8) (fun _ _ => rfl)) (fun _ _ => rfl)) (pe_ix (ix_seqK K) (pv 3) (pv 10) (fun _ _ => rfl)) set_list)))))))))))
      (pss_one (ps_ret (pe_callTy (call_tupleK K) (by rfl) (T.n "tuple") (by decide +kernel) (pa_cons (pe_lc (own := [("row", 11)])  rfl sc_end_of.nd (pi_listK K (pv 4)) (blkOk_by (N := N_end_of) (sc := defScope s_end_of) (by decide +kernel)) (fun _ _ _ _ _ => (pg_name (i := 11) sc_end_of.nd rfl (Or.inl rfl))) (fun _ _ _ _ _ => pts_nil) (fun _ _ _ _ _ => (pe_callTy (call_tupleK K) (by rfl) (T.n "tuple") (by decide +kernel) (pa_cons (pv 11) pa_nil)))) pa_nil))))))))), ?_⟩
    have t := tb.tab
    have h5 := tb.n5
    have hfl := rgs_flat (n := n) (A := A)
    have hrl := rgs_len (n := n) (A := A)
    -- circles
    refine s_set (K := K) (d := rgsD (rgs n A)) (z_call (a_one (z_var (i := 0) rfl du)) ⟨n, A, rfl, tb, rfl⟩) fun x1 H1 s1 d1 => ?_
    -- bound
    refine s_set (K := K) (d := .list (di (rgs n A).flatten)) (En.ez (n_flat ?_ (by omega))) fun x2 H2 s2 d2 => ?_
    · have h := src_list (K := K) (σ := [some u, some x1, none, none, none, none, none, none, none, none, none, none]) (p_var (i := 1) rfl d1)
      rw [List.length_map] at h
      have e : (fun i => ((rgs n A).map ringD).getD i .none) = fun i => ((rgs n A).map ringD).getD i .none := rfl
      refine fun H1 s1 R q => h H1 s1 R fun J j => q J ⟨j.go, fun H i x H' s hi y => ?_, j.stop⟩
      obtain ⟨a, b⟩ := j.yld H i x H' s hi y
      refine ⟨a, ?_⟩
      have e : ((rgs n A).map ringD).getD i .none = ringD ((rgs n A).getD i []) := by
        rw [List.getD_eq_getElem?_getD, List.getElem?_map, List.getElem?_eq_getElem hi, List.getD_eq_getElem?_getD, List.getElem?_eq_getElem hi]; rfl
      rw [e] at b
      exact b
    -- loose
    refine s_set (K := K) (d := .list (di (loose n A))) (En.ez ?_) fun x3 H3 s3 d3 => ?_
    · have hl := p_lenT (K := K) (σ := [some u, some x1, some x2, none, none, none, none, none, none, none, none, none]) (p_var (i := 0) rfl (L2.Dp.mono (s1.trans s2) du))
      rw [tab_len] at hl
      have h := n_lc (K := K) (tt := tB (tOp (rIn K true) (tVar 9) (tVar 2))) (te := tVar 9) (vs := [9]) (j := 9) (p := fun i => !decide (i ∈ (rgs n A).flatten)) (gd := fun i => .int (i : Int)) (src_r1 (ap_one hl) (by omega)).g (by omega) (fun i hi x H1 s1 dx => by
        cases dx
        exact t_val (z_notin (z_var (i := 9) rfl (.int _)) (z_var (i := 2) rfl (L2.Dp.mono s1 d2)))) (fun i hi _ x H1 s1 dx => by
        cases dx
        exact (z_var (i := 9) rfl (.int _)).en)
      have e : pick n (fun i => !decide (i ∈ (rgs n A).flatten)) (fun i => .int (i : Int)) = di (loose n A) := by
        unfold pick di loose
        congr 1
        refine List.filter_congr fun c hc => ?_
        by_cases q : c ∈ (rgs n A).flatten
        · rw [decide_eq_true q]
          obtain ⟨r, hr, hcr⟩ := List.mem_flatten.mp q
          symm
          exact decide_eq_false fun z => z r hr hcr
        · rw [decide_eq_false q]
          symm
          exact decide_eq_true fun r hr z => q (List.mem_flatten.mpr ⟨r, hr, z⟩)
      rw [e] at h
      exact h
    have s13 := (s1.trans s2).trans s3
    have du3 := L2.Dp.mono s13 du
    have d13 := L2.Dp.mono (s2.trans s3) d1
    -- made
    refine s_grid (K := K) (n := n) (fun _ _ => 0) (src_tup (p_var (i := 0) rfl du3)).g (by rw [tab_len]; omega) (fun i hi x H4 s4 dx => ?_) (fun ma ra H4 g4 => ?_)
    · have h := n_lcA (K := K) (σ := [some u, some x1, some x2, some x3, none, none, none, none, none, none, none, some x]) (H := H4) (vs := [9]) (j := 9) (te := tTup (tCons (tC (.int 0)) (tCons (tC (.int 1)) tNil))) (gd := fun _ => frD 0) (src_tup (p_var (i := 0) rfl (L2.Dp.mono s4 du3))).g (by rw [tab_len]; omega) (fun j hj z H1 s1 dz => n_zero)
      rw [tab_len] at h
      exact h
    rw [tab_len] at g4
    -- for ring in circles
    refine s_forHS (K := K) (Hb := H3) (fun a σ' H' => ∃ y5 y6 y7 y8 y9 y10 : Option V, σ' = [some u, some x1, some x2, some x3, some (.ref ma), y5, y6, y7, y8, y9, y10, none] ∧ Grid K H3 ma n n ra (enT n A a) H') ((src_list (p_var (i := 1) rfl d13)).h g4.same) ⟨none, none, none, none, none, none, rfl, g4⟩ (fun i σ' H' p => ?_) (fun a σ' H' ha p x5 dx5 => ?_) (fun σ' H' p => ?_)
    · obtain ⟨_, _, _, _, _, _, _, g⟩ := p; exact g.same
    · obtain ⟨y5, y6, y7, y8, y9, y10, rfl, g⟩ := p
      rw [List.length_map] at ha
      have ea : ((rgs n A).map ringD).getD a .none = ringD (rgs n A)[a] := by
        rw [List.getD_eq_getElem?_getD, List.getElem?_map, List.getElem?_eq_getElem ha]; rfl
      rw [ea] at dx5
      obtain ⟨r, hre⟩ : ∃ r, (rgs n A)[a] = r := ⟨_, rfl⟩
      have hrm : r ∈ rgs n A := by rw [← hre]; exact List.getElem_mem ha
      rw [hre] at dx5
      have R := isRing hrm
      have hrl2 : r.length ≤ n := nodup_len R.nd R.lt
      have hll : (loose n A).length ≤ n := nodup_len loose_nodup fun c hc => loose_lt hc
      have du4 := L2.Dp.mono g.same du3
      have d34 := L2.Dp.mono g.same d3
      have dx54 := L2.Dp.mono g.same dx5
      refine s_setN (K := K) (d := rowL r.length fun j => pi0 A r (r.getD j 0)) (n_call (a_cons (z_var (i := 0) rfl du4) (a_one (z_var (i := 5) rfl dx54))) ⟨n, A, r, D, rfl, t, h5, hrm, hD, hDs, hdn, rfl⟩) fun x6 H6 s6 d6 => ?_
      have g6 := g.same' s6
      refine s_setN (K := K) (d := rowL (loose n A).length fun j => hh n A r ((loose n A).getD j 0)) (n_call (a_cons (z_var (i := 0) rfl (L2.Dp.mono s6 du4)) (a_cons (z_var (i := 3) rfl (L2.Dp.mono s6 d34)) (a_one (z_var (i := 5) rfl (L2.Dp.mono s6 dx54))))) ⟨n, A, r, D, rfl, t, h5, hrm, hD, hDs, hdn, rfl⟩) fun x7 H7 s7 d7 => ?_
      have g7 := g6.same' s7
      -- without the rows
      have e6 := g.out (s6.trans s7) (Dn.mono s7 d6)
      have e7 := g6.out s7 d7
      have hb37 := g7.base
      have gb := g7.rebase
      generalize hHc : hidS ma n ra H7 = Hc at *
      have e5 := L2.Dp.mono hb37 dx5
      have e3 := L2.Dp.mono hb37 d3
      rw [← enG_start ha hre] at gb
      refine s_forH (K := K) (Hb := Hc) (n := r.length) (it := fun i => .int (i : Int)) (fun k σ' H' => ∃ y8 y9 y10 : Option V, σ' = [some u, some x1, some x2, some x3, some (.ref ma), some x5, some x6, some x7, y8, y9, y10, none] ∧ Grid K Hc ma n n ra (enG n A a r k []) H') (srcH_r1 (ap_one ?_) (by omega)) ⟨y8, y9, y10, rfl, gb⟩ (fun i σ' H' p => ?_) (fun k σ' H' hk p x8 dx8 => ?_) (fun σ' H' p => ?_)
      · have h := p_lenT (K := K) (σ := [some u, some x1, some x2, some x3, some (.ref ma), some x5, some x6, some x7, y8, y9, y10, none]) (p_var (i := 5) rfl (L2.Dp.mono gb.same e5))
        rw [di_len] at h
        exact h
      · obtain ⟨_, _, _, _, g⟩ := p; exact g.same
      · obtain ⟨y8, y9, y10, rfl, g⟩ := p
        cases dx8
        have hki := getD_in hk
        have hkn := R.lt _ hki
        have hkt := getD_not_take R.nd hk
        have zrow : ∀ {y9 y10 : Option V} {H2 : Hp}, Same Hc H2 → Ez K (tOp (rIx K) (tVar 5) (tVar 8)) [some u, some x1, some x2, some x3, some (.ref ma), some x5, some x6, some x7, some (.int (k : Int)), y9, y10, none] H2 (.int ((r.getD k 0 : Nat) : Int)) := fun s => z_ixT (i := k) (z_var (i := 5) rfl (L2.Dp.mono s e5)) (z_var (i := 8) rfl (.int _)) (by
          unfold di
          rw [List.getElem?_map, List.getElem?_eq_getElem hk, List.getD_eq_getElem?_getD, List.getElem?_eq_getElem hk]; rfl)
        have zsh : ∀ {y9 y10 : Option V} {H2 : Hp}, Same Hc H2 → Ez K (tOp (rIx K) (tVar 6) (tVar 8)) [some u, some x1, some x2, some x3, some (.ref ma), some x5, some x6, some x7, some (.int (k : Int)), y9, y10, none] H2 (frD (pi0 A r (r.getD k 0))) := fun s => z_rowL (i := k) (z_var (i := 6) rfl (L2.Dp.mono s e6)) (z_var (i := 8) rfl (.int _)) hk
        refine s_forHS (K := K) (Hb := Hc) (fun b σ' H' => ∃ y9 y10 : Option V, σ' = [some u, some x1, some x2, some x3, some (.ref ma), some x5, some x6, some x7, some (.int (k : Int)), y9, y10, none] ∧ Grid K Hc ma n n ra (enG n A a r k (r.take b)) H') ((src_tup (p_var (i := 5) rfl e5)).h g.same) ⟨y9, y10, rfl, g⟩ (fun i σ' H' p => ?_) (fun b σ' H' hb p x9 dx9 => ?_) (fun σ' H' p => ?_)
        · obtain ⟨_, _, _, g⟩ := p; exact g.same
        · obtain ⟨y9, y10, rfl, g⟩ := p
          rw [di_len] at hb
          rw [di_getD hb] at dx9
          cases dx9
          have hbi := getD_in hb
          have e1 : pi0 A r (r.getD k 0) = pi0 A r (r.getD k 0) * wve n A r (r.getD b 0) := by
            unfold wve; rw [if_pos hbi]; grind
          have hz := zsh (y9 := some (.int ((r.getD b 0 : Nat) : Int))) (y10 := y10) g.same
          rw [e1] at hz
          refine s_setgrid (K := K) (s := 4) rfl g hkn (R.lt _ hbi) hz (fun H2 s2 => zrow (g.same.trans s2)) (fun H2 s2 => z_var (i := 9) rfl (.int _)) fun H8 g8 => ⟨_, _, rfl, ?_⟩
          rw [enG_set _ hkt] at g8
          rw [take_getD hb]; exact g8
        · obtain ⟨y9, y10, rfl, g⟩ := p
          rw [di_len, List.take_length] at g
          refine s_forH (K := K) (Hb := Hc) (n := (loose n A).length) (it := fun i => .int (i : Int)) (fun b σ' H' => ∃ y9 y10 : Option V, σ' = [some u, some x1, some x2, some x3, some (.ref ma), some x5, some x6, some x7, some (.int (k : Int)), y9, y10, none] ∧ Grid K Hc ma n n ra (enG n A a r k (r ++ (loose n A).take b)) H') (srcH_r1 (ap_one ?_) (by omega)) ⟨y9, y10, rfl, by rw [List.take_zero, List.append_nil]; exact g⟩ (fun i σ' H' p => ?_) (fun b σ' H' hb p x10 dx10 => ?_) (fun σ' H' p => ?_)
          · have h := p_lenL (K := K) (σ := [some u, some x1, some x2, some x3, some (.ref ma), some x5, some x6, some x7, some (.int (k : Int)), y9, y10, none]) (p_var (i := 3) rfl (L2.Dp.mono g.same e3))
            rw [di_len] at h
            exact h
          · obtain ⟨_, _, _, g⟩ := p; exact g.same
          · obtain ⟨y9, y10, rfl, g⟩ := p
            cases dx10
            have hbi := getD_in hb
            have hbn := loose_lt hbi
            have e1 : pi0 A r (r.getD k 0) * hh n A r ((loose n A).getD b 0) = pi0 A r (r.getD k 0) * wve n A r ((loose n A).getD b 0) := by
              unfold wve; rw [if_neg ((mem_loose.mp hbi).2 r hrm), if_pos hbi]
            have zlo : ∀ {H2 : Hp}, Same Hc H2 → Ez K (tOp (rIx K) (tVar 3) (tVar 10)) [some u, some x1, some x2, some x3, some (.ref ma), some x5, some x6, some x7, some (.int (k : Int)), y9, some (.int (b : Int)), none] H2 (.int (((loose n A).getD b 0 : Nat) : Int)) := fun s => z_ixL (i := b) (z_var (i := 3) rfl (L2.Dp.mono s e3)) (z_var (i := 10) rfl (.int _)) (by
              unfold di
              rw [List.getElem?_map, List.getElem?_eq_getElem hb, List.getD_eq_getElem?_getD, List.getElem?_eq_getElem hb]; rfl)
            obtain ⟨E1, a1, a2, a3⟩ := ring_den R t hD hDs hdn
            obtain ⟨E2, b1, b2, b3⟩ := loose_den R t hD hDs hdn
            have hw5 : r.length ≤ 5 := by omega
            have d2l : ∀ {w : Nat}, w ≤ 5 → Ck.d2 w ≤ 538 := fun {w} h => by
              have : w = 0 ∨ w = 1 ∨ w = 2 ∨ w = 3 ∨ w = 4 ∨ w = 5 := by omega
              rcases this with rfl | rfl | rfl | rfl | rfl | rfl <;> decide
            have p1 : Bd 600 (pi0 A r (r.getD k 0)) := (fb_of (a3 _ hki) ((pi_spec R t).nn _ hki) (pi0_le R t hki)).bd a1 (Nat.le_refl _) (by
              rw [Nat.one_mul]
              exact Nat.lt_of_le_of_lt a2 (Nat.pow_lt_pow_right (by decide) (by have := d2l hw5; omega)))
            have p2 : Bd 600 (hh n A r ((loose n A).getD b 0)) := (fb_of (b3 _ hbi) (hh_nn t R hbi) (hh_le hrm t hbi)).bd b1 (Nat.le_refl _) (by
              rw [Nat.one_mul]
              refine Nat.lt_of_le_of_lt b2 (Nat.pow_lt_pow_right (by decide) ?_)
              have := d2l (w := (loose n A).length) (by omega)
              unfold e2
              split <;> omega)
            have hz : Ez K (tCall (spD K (P2 fun p q => p * q)) [] E0 (tCons (tOp (rIx K) (tVar 6) (tVar 8)) (tCons (tOp (rIx K) (tVar 7) (tVar 10)) tNil))) [some u, some x1, some x2, some x3, some (.ref ma), some x5, some x6, some x7, some (.int (k : Int)), y9, some (.int (b : Int)), none] H' (frD (pi0 A r (r.getD k 0) * hh n A r ((loose n A).getD b 0))) :=
              z_call (a_cons (zsh g.same) (a_one (z_rowL (i := b) (z_var (i := 7) rfl (L2.Dp.mono g.same e7)) (z_var (i := 10) rfl (.int _)) hb))) ⟨_, _, 600, 600, rfl, p1, p2, by decide, rfl⟩
            rw [e1] at hz
            refine s_setgrid (K := K) (s := 4) rfl g hkn hbn hz (fun H2 s2 => zrow (g.same.trans s2)) (fun H2 s2 => zlo (g.same.trans s2)) fun H8 g8 => ⟨_, _, rfl, ?_⟩
            rw [enG_set _ hkt, List.append_assoc, ← take_getD hb] at g8
            exact g8
          · obtain ⟨y9, y10, rfl, g⟩ := p
            rw [List.take_length, enG_row ha hre hk] at g
            exact ⟨_, _, _, rfl, g⟩
      · obtain ⟨y8, y9, y10, rfl, g⟩ := p
        rw [enG_ring ha hre] at g
        exact ⟨_, _, _, _, _, _, rfl, g.back hb37⟩
    · obtain ⟨y5, y6, y7, y8, y9, y10, rfl, g⟩ := p
      rw [List.length_map, enT_all] at g
      have dm := g.dp
      refine s_ret (K := K) (d := tabD n (En0 n A)) (n_tuple ?_) fun v H5 s5 d5 => q v H5 ((s13.trans g.same).trans s5) (Dn.anti (s13.trans g.same) d5)
      have h := n_lcA (K := K) (σ := [some u, some x1, some x2, some x3, some (.ref ma), y5, y6, y7, y8, y9, y10, none]) (H := H') (vs := [11]) (j := 11) (te := tCB (rTupleOf K) (tCons (tVar 11) tNil)) (gd := fun i => rowT n (En0 n A i)) (src_list (p_var (i := 4) rfl dm)).g (by rw [tab_len]; omega) (fun i hi x H1 s1 dx => by
        rw [tab_len] at hi
        rw [tab_getD hi] at dx
        exact n_tupleF (z_var (i := 11) rfl dx) flat_frs)
      rw [tab_len] at h
      exact h
end
end Ck
end

section
set_option Elab.async false
set_option linter.all false
set_option maxRecDepth 100000
set_option maxHeartbeats 4000000
/-! limits. -/
namespace Ck
open PySem PySem.Spec PyProof.Rows L2
/-- a table over a small number -/
structure S6 (n : Nat) (A : Mx) (D : Nat) : Prop where
  tb : Tb n A
  pos : 0 < D
  le : D ≤ 6
  dn : ∀ i j, i < n → j < n → (A i j).den ∣ D
theorem pow6 {D k m : Nat} (h : D ≤ 6) (hk : 3 * k ≤ m) : D ^ k ≤ 2 ^ m := by
  refine Nat.le_trans (Nat.pow_le_pow_left (show D ≤ 2 ^ 3 by omega) k) ?_
  rw [← Nat.pow_mul]; exact Nat.pow_le_pow_right (by decide) hk
theorem pow66 {D k : Nat} (h0 : 0 < D) (h : D ≤ 6) (hk : k ≤ 6) : D ^ k < 2 ^ 16 := by
  refine Nat.lt_of_le_of_lt (Nat.le_trans (Nat.pow_le_pow_left h k) (Nat.pow_le_pow_right (by decide) hk)) (by decide)
theorem two_lt {a b : Nat} (h : a < b) : 2 ^ a < 2 ^ b := Nat.pow_lt_pow_right (by decide) h
section
variable {n D p : Nat} {A : Mx}
theorem S6.pwTb (s : S6 n A D) {k : Nat} (hk : k ≤ 900) : Tb n (pw n A k) :=
  ⟨s.tb.tab.pw k, s.tb.n1, s.tb.n5, D ^ k, Nat.pow_pos s.pos, Nat.lt_of_le_of_lt (pow6 s.le (Nat.le_refl _)) (two_lt (by omega)), den_pw s.pos s.dn k⟩
theorem S6.big (s : S6 n A D) {k : Nat} (hk : k ≤ 900) : D ^ (k + 1) < 2 ^ 2900 := Nat.lt_of_le_of_lt (pow6 s.le (Nat.le_refl _)) (two_lt (by omega))
theorem S6.en (s : S6 n A D) (hp : p ≤ 6) : ∃ E : Nat, 0 < E ∧ E ≤ 2 ^ 807 ∧ ∀ i j, i < n → j < n → (En0 n (pw n A p) i j).den ∣ E :=
  en_den (s.tb.tab.pw p) s.tb.n5 (Nat.pow_pos s.pos) (pow66 s.pos s.le hp) (den_pw s.pos s.dn p)
theorem den_lm {E0 : Mx} {E : Nat} (hE : 0 < E) (hD : 0 < D) (h : ∀ i j, i < n → j < n → (E0 i j).den ∣ E) (g : ∀ i j, i < n → j < n → (A i j).den ∣ D) : ∀ k, ∀ i j, i < n → j < n → (Lm n A E0 k i j).den ∣ D ^ k * E
  | 0 => fun i j hi hj => by rw [Nat.pow_zero, Nat.one_mul]; exact h i j hi hj
  | k + 1 => fun i j hi hj => by
    rw [Nat.pow_succ, Nat.mul_comm (D ^ k) D, Nat.mul_assoc]
    exact den_mat hD (Nat.mul_pos (Nat.pow_pos hD) hE) g (den_lm hE hD h g k) i j hi hj
theorem S6.lmD (s : S6 n A D) (hp : p ≤ 6) : ∃ E : Nat, 0 < E ∧ E < 2 ^ 826 ∧ ∀ k, k ≤ 6 → ∀ i j, i < n → j < n → (Lm n A (En0 n (pw n A p)) k i j).den ∣ E := by
  obtain ⟨E, h1, h2, h3⟩ := s.en hp
  refine ⟨D ^ 6 * E, Nat.mul_pos (Nat.pow_pos s.pos) h1, ?_, fun k hk i j hi hj => ?_⟩
  · refine Nat.lt_of_le_of_lt (Nat.mul_le_mul (pow6 (k := 6) (m := 18) s.le (by decide)) h2) ?_
    rw [← Nat.pow_add]; exact two_lt (by decide)
  · refine Nat.dvd_trans (den_lm h1 s.pos h3 s.dn k i j hi hj) (Nat.mul_dvd_mul_right (Nat.pow_dvd_pow D hk) E)
theorem tb_of {B : Mx} {E : Nat} (t : Tab n B) (h1 : 1 ≤ n) (h5 : n ≤ 5) (hE : 0 < E) (hE9 : E < 2 ^ 826) (h : ∀ i j, i < n → j < n → (B i j).den ∣ E) : Tb n B ∧ ∀ i j, i < n → j < n → Bd 826 (B i j) :=
  ⟨⟨t, h1, h5, E, hE, lt_pw hE9 (by decide), h⟩, fun i j hi hj => (fb_of (h i j hi hj) (t.nn i j hi hj) (t.le1 hi hj)).bd hE (Nat.le_refl _) (by rw [Nat.one_mul]; exact hE9)⟩
theorem S6.lm (s : S6 n A D) (hp : p ≤ 6) {k : Nat} (hk : k ≤ 6) : Tb n (Lm n A (En0 n (pw n A p)) k) ∧ ∀ i j, i < n → j < n → Bd 826 (Lm n A (En0 n (pw n A p)) k i j) := by
  obtain ⟨E, h1, h2, h3⟩ := s.lmD hp
  exact tb_of (Lm_tab s.tb.tab (en_tab (s.tb.tab.pw p)) k) s.tb.n1 s.tb.n5 h1 h2 (h3 k hk)
theorem S6.bd (s : S6 n A D) : ∀ i j, i < n → j < n → Bd 3 (A i j) := fun i j hi hj => (fb_of (s.dn i j hi hj) (s.tb.tab.nn i j hi hj) (s.tb.tab.le1 hi hj)).bd s.pos (Nat.le_refl _) (by have := s.le; omega)
end
section
variable {P : Program} {w : World} {K : Fg} {mg : Str → Option Value} {base : Heap}
section
variable {σ : L2.St} {H : Hp} {ta : TE} {ds : List PyData} {d : PyData}
theorem z_last (ha : Ez K ta σ H (.list ds)) (h0 : 0 < ds.length) (hd : ds[ds.length - 1]? = some d) : Ez K (tOp (rIx K) ta (tUn (rU fun i => .int (-i)) (tC (.int 1)))) σ H d := z_op ha (z_neg z_int) fun x y H1 s dx dy Q q => by
  obtain ⟨a, xs, rfl, hs, hx⟩ := dx.isLst
  cases dy
  obtain ⟨v, hv, dv⟩ := hx.at hd
  refine .inl ⟨a, xs, -1, v, rfl, rfl, hs, ?_, q v H1 (Same.refl _) dv⟩
  have hl := hx.len
  have e : -1 + ((xs.length : Nat) : Int) = ((ds.length - 1 : Nat) : Int) := by omega
  unfold atI ixN
  rw [if_neg (by decide), if_pos (by omega), e]
  simpa using hv
end
abbrev s_limits : Stmt := topS 61
abbrev N_limits : List Str := ["table", "steps", "made", "k"]
theorem sc_limits : FnScope N_limits ["table"] (defScope s_limits) := ⟨rfl, rfl, rfl, by decide +kernel, rfl, by decide +kernel, by decide +kernel⟩
theorem b_limits (T : Txt K mg) : Binds K (T.fd 43) ["table"] [] := (T.F 43 _ rfl).binds (ps := ["table"]) fun _ _ _ _ _ _ us hl => match us, hl with | [_], _ => rfl

def PLim : List PyData → (PyData → Prop) → Prop := fun ds R => ∃ (n : Nat) (A : Mx) (D : Nat), ds = [tabD n A] ∧ S6 n A D ∧ R = fun x => ∃ p : Nat, PerT n A p ∧ x = .tuple (tab p fun k => tabD n (Lm n A (En0 n (pw n A p)) k))
theorem ok_limits (T : Txt K mg) : FnOk P w K mg base CX0 10 (T.fa 43) (T.fd 43) ["table"] (spR K PLim) := by
  refine okR (T.F 43 _ rfl) sc_limits (fun ds r h => ?_) (fun cdv A0 outer s H vs Q E ds R hr hv hp q => ?_)
  · obtain ⟨_, _, _, rfl, _⟩ := h; rfl
  · obtain ⟨n, A, D, rfl, S, rfl⟩ := hp
    obtain ⟨u, rfl, du⟩ := one_of hv
    refine ⟨_, (pss_cons (ps_set (i := 1) sc_limits.nd rfl (Or.inl rfl) (pe_call (ok_period T) (hr.mono (by decide)) (by rfl) (T.g 39 _ rfl) (T.F 39 _ rfl).kp (b_period T) .nil pass0 (pa_cons (pv 0) pa_nil)))
      (pss_cons (ps_set (i := 2) sc_limits.nd rfl (Or.inl rfl) (pe_lst (pa_cons (pe_call (ok_end_of T) (hr.mono (by decide)) (by rfl) (T.g 42 _ rfl) (T.F 42 _ rfl).kp (b_end_of T) .nil pass0 (pa_cons (pe_call (ok_power T) (hr.mono (by decide)) (by rfl) (T.g 32 _ rfl) (T.F 32 _ rfl).kp (b_power T) .nil pass0 (pa_cons (pv 0) (pa_cons (pv 1) pa_nil))) pa_nil)) pa_nil)))
      (pss_cons (ps_for PassesOwn.never rfl (pi_range2 (by rfl) (T.n "range") (pa_cons pe_int (pa_cons (pv 1) pa_nil))) (pg_name (i := 3) sc_limits.nd rfl (Or.inl rfl))
       (pss_one (ps_expr (pe_appK K (pv 2) (pa_cons (pe_call (ok_behind T) (hr.mono (by decide)) (by rfl) (T.g 28 _ rfl) (T.F 28 _ rfl).kp (b_behind T) .nil pass0 (pa_cons (pe_ix (ix_seqK K) (pv 2) (pe_un un_neg pe_int) (fun _ _ => rfl)) (pa_cons (pv 0) pa_nil))) pa_nil)))))
      (pss_one (ps_ret (pe_callTy (call_tupleK K) (by rfl) (T.n "tuple") (by decide +kernel) (pa_cons (pv 2) pa_nil))))))), ?_⟩
    have tb := S.tb
    refine r_call (K := K) (a_one (z_var (i := 0) rfl du)) ⟨n, A, rfl, tb, rfl⟩ fun r hr2 v1 H1 s1 d1 => ?_
    obtain ⟨p, hp, rfl⟩ := hr2
    cases d1
    obtain ⟨p1, p6, _⟩ := hp.bds tb.tab tb.n5
    have hlm := fun k (hk : k ≤ 6) => S.lm (p := p) p6 hk
    refine s_setN (K := K) (d := .list (tab 1 fun k => tabD n (Lm n A (En0 n (pw n A p)) k))) (n_lst (an_cons (n_call (a_one (z_call (a_cons (z_var (i := 0) rfl (L2.Dp.mono s1 du)) (a_one (z_var (i := 1) rfl (.int _)))) ⟨n, A, p, D, rfl, tb, S.pos, S.dn, S.big (by omega), rfl⟩)) ⟨n, pw n A p, D ^ p, rfl, S.pwTb (by omega), Nat.pow_pos S.pos, pow66 S.pos S.le p6, den_pw S.pos S.dn p, rfl⟩) an_nil) (by rw [tab_len]; decide)) fun v2 H2 s2 d2 => ?_
    obtain ⟨ma, rfl, nm, I2⟩ := LcF.of (Hb := H1) s2 d2
    refine s_forHS (K := K) (Hb := H1) (n := p - 1) (it := fun i => .int (1 + (i : Nat))) (fun i σ' H' => ∃ y3 : Option V, σ' = [some u, some (.int (p : Int)), some (.ref ma), y3] ∧ LcInv K H1 ma (tab (i + 1) fun k => tabD n (Lm n A (En0 n (pw n A p)) k)) H')
      (srcH_r2 (ap_cons p_int (ap_one ?_)) (by omega) (by omega)) ⟨none, rfl, I2⟩ (fun i σ' H' p => ?_) (fun k σ' H' hk q3 x dx => ?_) (fun σ' H' q3 => ?_)
    · rw [show (1 : Int) + ((p - 1 : Nat) : Int) = (p : Int) by omega]
      exact p_var rfl (.int _)
    · obtain ⟨_, _, I⟩ := p; exact I.same
    · obtain ⟨y3, rfl, I⟩ := q3
      obtain ⟨tk, bk⟩ := hlm k (by omega)
      refine s_app (K := K) (m := 2) (Hb := H1) rfl nm I (by rw [tab_len]; omega) (d := tabD n (Lm n A (En0 n (pw n A p)) (k + 1))) (n_call (a_cons (z_last (z_var (i := 2) rfl (LcF.dn nm I).dp) (by rw [tab_len]; omega) ?_) (a_one (z_var (i := 0) rfl (L2.Dp.mono (s1.trans I.same) du)))) ⟨n, Lm n A (En0 n (pw n A p)) k, A, 826, 3, rfl, tk, tb, bk, S.bd, ?_, rfl⟩) fun H4 I4 _ => ⟨_, rfl, ?_⟩
      · rw [tab_len]; exact tab_at (by omega)
      · have := tb.n5
        have := Nat.mul_le_mul_right (3 + 826 + 1) this
        omega
      · rw [tab_succ (n := k + 1)]; exact I4
    · obtain ⟨y3, rfl, I⟩ := q3
      rw [show p - 1 + 1 = p by omega] at I
      refine s_ret (K := K) (d := .tuple (tab p fun k => tabD n (Lm n A (En0 n (pw n A p)) k))) (n_tupleF (z_var (i := 2) rfl (LcF.dn nm I).dp) (flats_tab fun _ => flat_matT)) fun v H5 s5 d5 => q _ ⟨p, hp, rfl⟩ v H5 ((s1.trans I.same).trans s5) (Dn.anti (s1.trans I.same) d5)
end
end Ck
end

section
set_option Elab.async false
set_option linter.all false
set_option maxRecDepth 100000
set_option maxHeartbeats 4000000
/-! shortened, widest, near. -/
namespace Ck
open PySem PySem.Spec PyProof.Rows L2
def iab (z : Int) : Int := if z < 0 then -z else z
theorem ab_iab (z : Int) : ab ((z : Int) : Rat) = ((iab z : Int) : Rat) := by
  unfold ab iab
  by_cases h : z < 0
  · rw [if_pos h, if_pos (by rw [show (0 : Rat) = ((0 : Int) : Rat) from Rat.intCast_zero.symm]; exact Rat.intCast_lt_intCast.mpr h), Rat.intCast_neg]
  · rw [if_neg h, if_neg (by rw [show (0 : Rat) = ((0 : Int) : Rat) from Rat.intCast_zero.symm]; exact fun q => h (Rat.intCast_lt_intCast.mp q))]
theorem iab_abs (z : Int) : iab z = (z.natAbs : Int) := by unfold iab; split <;> omega
theorem ab_scale {x : Rat} {L : Nat} : ab x * ((L : Int) : Rat) = ab (x * ((L : Int) : Rat)) := by
  have h : (0 : Rat) ≤ ((L : Int) : Rat) := Rat.intCast_nonneg.mpr (by omega)
  have := ab_mul_nonneg (x := x) h
  rw [Rat.mul_comm ((L : Int) : Rat) x] at this
  rw [this]; exact Rat.mul_comm _ _
def asum (n : Nat) (Z : Nat → Nat → Int) (j : Nat) : Int := isum n fun i => iab (Z i j)
theorem asum_nrm {n L : Nat} {G : Mx} {Z : Nat → Nat → Int} (h : Sc n n G L Z) {j : Nat} (hj : j < n) : ((asum n Z j : Int) : Rat) = nrm n G j * ((L : Int) : Rat) := by
  unfold asum isum
  rw [isum_cast]
  show _ = (sm (rg n) fun i => ab (G i j)) * _
  rw [← sm_mulr]
  refine sm_congr fun i hi => ?_
  rw [← ab_iab, ← h i j (List.mem_range.mp hi) hj, ab_scale]
open Classical in
noncomputable def wid (n : Nat) (f : Nat → Int) : Int := if h : ∃ m, (∃ j, j < n ∧ m = f j) ∧ ∀ j, j < n → f j ≤ m then h.choose else 0
theorem exists_max (f : Nat → Int) : ∀ n, 1 ≤ n → ∃ m, (∃ j, j < n ∧ m = f j) ∧ ∀ j, j < n → f j ≤ m
  | 1, _ => ⟨f 0, ⟨0, by decide, rfl⟩, fun j hj => by rw [show j = 0 by omega]; exact Int.le_refl _⟩
  | n + 2, _ => by
    obtain ⟨m, ⟨j, hj, e⟩, h⟩ := exists_max f (n + 1) (by omega)
    by_cases c : f (n + 1) ≤ m
    · refine ⟨m, ⟨j, by omega, e⟩, fun k hk => ?_⟩
      by_cases q : k = n + 1
      · rw [q]; exact c
      · exact h k (by omega)
    · refine ⟨f (n + 1), ⟨n + 1, by omega, rfl⟩, fun k hk => ?_⟩
      by_cases q : k = n + 1
      · rw [q]; exact Int.le_refl _
      · have := h k (by omega); omega
theorem wid_spec {n : Nat} {f : Nat → Int} (h1 : 1 ≤ n) : (∃ j, j < n ∧ wid n f = f j) ∧ ∀ j, j < n → f j ≤ wid n f := by
  have h := exists_max f n h1
  unfold wid
  rw [dif_pos h]; exact h.choose_spec
theorem wid_eq {n : Nat} {f : Nat → Int} {m : Int} (h1 : 1 ≤ n) (h : (∃ j, j < n ∧ m = f j) ∧ ∀ j, j < n → f j ≤ m) : m = wid n f := by
  obtain ⟨⟨j, hj, e⟩, q⟩ := h
  obtain ⟨⟨k, hk, e2⟩, q2⟩ := wid_spec (f := f) h1
  have a := q k hk
  have b := q2 j hj
  omega
section
variable {P : Program} {w : World} {K : Fg} {mg : Str → Option Value} {base : Heap}
section
variable {σ : L2.St} {H : Hp} {ta te : TE} {R : PyData → Prop} {d : PyData}
theorem z_abs {i : Int} (ha : Ez K ta σ H (.int i)) : Ez K (tCB (fun xs H Q => ∃ i, xs = [.int i] ∧ Q (.int (if i < 0 then -i else i)) H) (tCons ta tNil)) σ H (.int (iab i)) := z_cb (a_one ha) fun vs H1 s dv Q q => by
  obtain ⟨x, rfl, dx⟩ := one_of dv
  cases dx
  exact ⟨i, rfl, q _ _ (Same.refl _) (.int _)⟩
theorem z_max {n : Nat} {f : Nat → Int} (h1 : 1 ≤ n) (h : Ez K te σ H (.list (tab n fun i => .int (f i)))) : Ez K (tCB (rMax K) (tCons te tNil)) σ H (.int (wid n f)) := z_cb (a_one h) fun vs H1 s dv Q q => by
  obtain ⟨x, rfl, dx⟩ := one_of dv
  obtain ⟨a, xs, rfl, hs, hx⟩ := dx.isLst
  rw [tab_ints] at hx
  have e2 := hx.int_eq
  subst e2
  refine ⟨a, _, rfl, hs, by rw [List.length_map, List.length_range]; exact h1, fun m hm hall => ?_⟩
  obtain ⟨j, hj, e⟩ := List.mem_map.mp hm
  have em : m = wid n f := wid_eq h1 ⟨⟨j, List.mem_range.mp hj, e.symm⟩, fun k hk => hall _ (List.mem_map.mpr ⟨k, List.mem_range.mpr hk, rfl⟩)⟩
  rw [em]
  exact q _ _ (Same.refl _) (.int _)
end
abbrev s_shortened : Stmt := topS 62
abbrev N_shortened : List Str := ["rows", "below", "divisor", "row", "one"]
theorem sc_shortened : FnScope N_shortened ["rows", "below"] (defScope s_shortened) := ⟨rfl, rfl, rfl, by decide +kernel, rfl, by decide +kernel, by decide +kernel⟩
theorem b_shortened (T : Txt K mg) : Binds K (T.fd 44) ["rows", "below"] [] := (T.F 44 _ rfl).binds (ps := ["rows", "below"]) fun _ _ _ _ _ _ us hl => match us, hl with | [_, _], _ => rfl

def PSho : List PyData → (PyData → Prop) → Prop := fun ds R => ∃ (m w : Nat) (Z : Nat → Nat → Int) (L : Nat), ds = [intsM m w Z, .int (L : Int)] ∧ m ≤ 8 ∧ w ≤ 8 ∧ 0 < L ∧ L < 2 ^ 9000 ∧
  R = fun r => ∃ (Z' : Nat → Nat → Int) (L' g : Nat), 0 < L' ∧ 0 < g ∧ L = L' * g ∧ (∀ i j, i < m → j < w → Z i j = Z' i j * (g : Int)) ∧ r = .tuple [intsM m w Z', .int (L' : Int)]
theorem ok_shortened (T : Txt K mg) : FnOk P w K mg base CX0 1 (T.fa 44) (T.fd 44) ["rows", "below"] (spR K PSho) := by
  refine okR (T.F 44 _ rfl) sc_shortened (fun ds r h => ?_) (fun cdv A outer s H vs Q E ds R hr hv hp q => ?_)
  · obtain ⟨_, _, _, _, rfl, _⟩ := h; rfl
  · obtain ⟨m, w', Z, L, rfl, hm, hw, hL, hL9, rfl⟩ := hp
    obtain ⟨u, v, rfl, du, dv⟩ := two_of hv
    cases dv
    refine ⟨_, (pss_cons (ps_set (i := 2) sc_shortened.nd rfl (Or.inr rfl) (pv 1))
      (pss_cons (ps_for PassesOwn.never rfl (pi_listK K (pv 0)) (pg_name (i := 3) sc_shortened.nd rfl (Or.inl rfl))
       (pss_one (ps_for PassesOwn.never rfl (pi_listK K (pv 3)) (pg_name (i := 4) sc_shortened.nd rfl (Or.inl rfl))
        (pss_one (ps_set (i := 2) sc_shortened.nd rfl (Or.inr rfl) (pe_callBfun cr_gcd (by rfl) T.gcd (pa_cons (pv 2) (pa_cons (pv 4) pa_nil))))))))
      (pss_one (ps_ret (pe_tup (pa_cons (pe_lc (own := [("row", 3)])  rfl sc_shortened.nd (pi_listK K (pv 0)) (blkOk_by (N := N_shortened) (sc := defScope s_shortened) (by decide +kernel)) (fun _ _ _ _ _ => (pg_name (i := 3) sc_shortened.nd rfl (Or.inl rfl))) (fun _ _ _ _ _ => pts_nil) (fun _ _ _ _ _ => (pe_lc (own := [("one", 4)])  rfl sc_shortened.nd (pi_listK K (pv 3)) (blkOk_by (N := N_shortened) (sc := (relS ({ kind := PySem.ScopeKind.function, names := [ (PySem.Str.ofString ".0", PySem.NameKind.local), (PySem.Str.ofString "row", PySem.NameKind.local), (PySem.Str.ofString "divisor", PySem.NameKind.free)], isGenerator := false, isCoroutine := false, more := [] : PySem.Scope }) (defScope s_shortened))) (by decide +kernel)) (fun _ _ _ _ _ => (pg_name (i := 4) sc_shortened.nd rfl (Or.inl rfl))) (fun _ _ _ _ _ => pts_nil) (fun _ _ _ _ _ => (pe_op op_fdivX (pv 4) (pv 2)))))) (pa_cons (pe_op op_fdivX (pv 1) (pv 2)) pa_nil))))))), ?_⟩
    refine s_set (K := K) (z_var (i := 1) rfl (.int _)) fun x1 H1 s1 d1 => ?_
    cases d1
    refine s_forHS (K := K) (Hb := H) (fun i σ' H' => ∃ (g : Nat) (y3 y4 : Option V), σ' = [some u, some (.int (L : Int)), some (.int (g : Int)), y3, y4] ∧ Same H H' ∧ 0 < g ∧ g ∣ L ∧ ∀ i' j, i' < i → j < w' → (g : Int) ∣ Z i' j)
      ((src_list (p_var (i := 0) rfl du)).h s1) ⟨L, none, none, rfl, s1, hL, Nat.dvd_refl _, fun i' j h => absurd h (Nat.not_lt_zero _)⟩ (fun i σ' H' p => ?_) (fun i σ' H' hi p x dx => ?_) (fun σ' H' p => ?_)
    · obtain ⟨_, _, _, _, s', _⟩ := p; exact s'
    · obtain ⟨g, y3, y4, rfl, s', hg, hgL, hgZ⟩ := p
      rw [tab_len] at hi
      rw [tab_getD hi] at dx
      refine s_forH (K := K) (Hb := H) (fun j σ' H' => ∃ (g : Nat) (y4 : Option V), σ' = [some u, some (.int (L : Int)), some (.int (g : Int)), some x, y4] ∧ Same H H' ∧ 0 < g ∧ g ∣ L ∧ (∀ i' j, i' < i → j < w' → (g : Int) ∣ Z i' j) ∧ ∀ j', j' < j → (g : Int) ∣ Z i j')
        ((src_list (p_var (i := 3) rfl dx)).h s') ⟨g, y4, rfl, s', hg, hgL, hgZ, fun j h => absurd h (Nat.not_lt_zero _)⟩ (fun j σ' H' p => ?_) (fun j σ' H' hj p x dz => ?_) (fun σ' H' p => ?_)
      · obtain ⟨_, _, _, s', _⟩ := p; exact s'
      · obtain ⟨g, y4, rfl, s', hg, hgL, hgZ, hg2⟩ := p
        rw [tab_len] at hj
        rw [tab_getD hj] at dz
        cases dz
        refine s_set1 (K := K) (z_gcd (z_var (i := 2) rfl (.int _)) (z_var (i := 4) rfl (.int _))) fun v H4 s4 d4 => ?_
        cases d4
        rw [Int.natAbs_natCast]
        have hd1 : Nat.gcd g (Z i j).natAbs ∣ g := Nat.gcd_dvd_left _ _
        have hd2 := Int.natCast_dvd_natCast.mpr hd1
        refine ⟨_, _, rfl, s'.trans s4, Nat.gcd_pos_of_pos_left _ hg, Nat.dvd_trans hd1 hgL, fun i' j' h1 h2 => Int.dvd_trans hd2 (hgZ i' j' h1 h2), fun j' h1 => ?_⟩
        by_cases e : j' = j
        · subst e; exact Int.ofNat_dvd_left.mpr (Nat.gcd_dvd_right _ _)
        · exact Int.dvd_trans hd2 (hg2 j' (by omega))
      · obtain ⟨g, y4, rfl, s', hg, hgL, hgZ, hg2⟩ := p
        rw [tab_len] at hg2
        refine ⟨g, _, _, rfl, s', hg, hgL, fun i' j' h1 h2 => ?_⟩
        by_cases e : i' = i
        · subst e; exact hg2 j' h2
        · exact hgZ i' j' (by omega) h2
    · obtain ⟨g, y3, y4, rfl, s', hg, hgL, hgZ⟩ := p
      rw [tab_len] at hgZ
      have hc : ∀ i : Int, CDivX i (g : Int) := fun i => ⟨by omega, log2_lt (by decide) (by rw [Int.natAbs_natCast]; exact Nat.lt_of_le_of_lt (Nat.le_of_dvd hL hgL) hL9)⟩
      have hfd : Ez K (tOp (rI CDivX fun i j => .int (i.fdiv j)) (tVar 1) (tVar 2)) [some u, some (.int (L : Int)), some (.int (g : Int)), y3, y4] H' (.int ((L / g : Nat) : Int)) := by
        rw [← fdiv_nat]
        exact z_fdiv (z_var (i := 1) rfl (.int _)) (z_var (i := 2) rfl (.int _)) (hc _)
      refine s_ret (K := K) (d := .tuple [intsM m w' fun i j => (Z i j).fdiv (g : Int), .int ((L / g : Nat) : Int)]) (n_tup (an_cons ?_ (an_cons hfd.en an_nil))) fun v H5 s5 d5 => q _ ⟨_, L / g, g, Nat.div_pos (Nat.le_of_dvd hL hgL) hg, hg, (Nat.div_mul_cancel hgL).symm, fun i j hi hj => (Int.fdiv_mul_cancel (hgZ i j hi hj)).symm, rfl⟩ v H5 (s'.trans s5) (Dn.anti s' d5)
      have h := n_lcA (K := K) (σ := [some u, some (.int (L : Int)), some (.int (g : Int)), y3, y4]) (H := H') (vs := [3]) (j := 3) (te := tLc (iList K (tVar 3)) (gName 4) tYes (tOp (rI CDivX fun i j => .int (i.fdiv j)) (tVar 4) (tVar 2)) [4])
        (gd := fun i => intsL w' fun j => (Z i j).fdiv (g : Int)) (src_list (p_var (i := 0) rfl (L2.Dp.mono s' du))).g (by rw [tab_len]; omega) (fun i hi x H1 s1 dx => by
          rw [tab_len] at hi
          rw [tab_getD hi] at dx
          have h := n_lcA (K := K) (σ := [some u, some (.int (L : Int)), some (.int (g : Int)), some x, y4]) (H := H1) (vs := [4]) (j := 4) (te := tOp (rI CDivX fun i j => .int (i.fdiv j)) (tVar 4) (tVar 2))
            (gd := fun j => .int ((Z i j).fdiv (g : Int))) (src_list (p_var (i := 3) rfl dx)).g (by rw [tab_len]; omega) (fun j hj z H2 s2 dz => by
              rw [tab_len] at hj
              rw [tab_getD hj] at dz
              exact (z_fdiv (z_var (i := 4) rfl dz) (z_var (i := 2) rfl (.int _)) (hc _)).en)
          rw [tab_len] at h
          exact h)
      rw [tab_len] at h
      exact h
abbrev s_widest : Stmt := topS 63
abbrev N_widest : List Str := ["rows", "cask", "row"]
theorem sc_widest : FnScope N_widest ["rows"] (defScope s_widest) := ⟨rfl, rfl, rfl, by decide +kernel, rfl, by decide +kernel, by decide +kernel⟩
theorem b_widest (T : Txt K mg) : Binds K (T.fd 45) ["rows"] [] := (T.F 45 _ rfl).binds (ps := ["rows"]) fun _ _ _ _ _ _ us hl => match us, hl with | [_], _ => rfl

def PWid : List PyData → PyData → Prop := fun ds r => ∃ (n : Nat) (Z : Nat → Nat → Int), ds = [intsM n n Z] ∧ 1 ≤ n ∧ n ≤ 8 ∧ r = .int (wid n (asum n Z))
theorem ok_widest (T : Txt K mg) : FnOk P w K mg base CX0 1 (T.fa 45) (T.fd 45) ["rows"] (spD K PWid) := by
  refine okD (T.F 45 _ rfl) sc_widest (fun ds r h => ?_) (fun cdv A outer s H vs Q E ds r hr hv hp q => ?_)
  · obtain ⟨_, _, rfl, _⟩ := h; rfl
  · obtain ⟨n, Z, rfl, h1, h8, rfl⟩ := hp
    obtain ⟨u, rfl, du⟩ := one_of hv
    refine ⟨_, (pss_one (ps_ret (pe_callB (cr_maxK K rfl) (by rfl) (T.n "max") (by decide +kernel) (pa_cons (pe_lc (own := [("cask", 1)])  rfl sc_widest.nd (pi_range1 (by rfl) (T.n "range") (pa_cons (pe_callB (call_lenK K) (by rfl) (T.n "len") PySem.boot_len (pa_cons (pv 0) pa_nil)) pa_nil)) (blkOk_by (N := N_widest) (sc := defScope s_widest) (by decide +kernel)) (fun _ _ _ _ _ => (pg_name (i := 1) sc_widest.nd rfl (Or.inr rfl))) (fun _ _ _ _ _ => pts_nil) (fun _ _ _ _ _ => (pe_callB (cr_sumK K rfl) (by rfl) (T.n "sum") (by decide +kernel) (pa_cons (pe_lc (own := [("row", 2)])  rfl sc_widest.nd (pi_listK K (pv 0)) (blkOk_by (N := N_widest) (sc := (relS ({ kind := PySem.ScopeKind.function, names := [ (PySem.Str.ofString ".0", PySem.NameKind.local), (PySem.Str.ofString "cask", PySem.NameKind.cell), (PySem.Str.ofString "sum", PySem.NameKind.globalImplicit), (PySem.Str.ofString "rows", PySem.NameKind.free)], isGenerator := false, isCoroutine := false, more := [] : PySem.Scope }) (defScope s_widest))) (by decide +kernel)) (fun _ _ _ _ _ => (pg_name (i := 2) sc_widest.nd rfl (Or.inl rfl))) (fun _ _ _ _ _ => pts_nil) (fun _ _ _ _ _ => (pe_callB call_abs (by rfl) (T.n "abs") (by decide +kernel) (pa_cons (pe_ix (ix_seqK K) (pv 2) (pv 1) (fun _ _ => rfl)) pa_nil)))) pa_nil)))) pa_nil)))), ?_⟩
    have hl := p_lenL (K := K) (σ := start N_widest [u]) (p_var (i := 0) rfl du)
    rw [tab_len] at hl
    refine s_ret (K := K) (Ez.en (z_max h1 (En.ez (n_lcA (src_r1 (ap_one hl) (by omega)).g (by omega) fun j hj z H1 s1 dz => ?_)))) q
    cases dz
    refine Ez.en (z_sum (n := n) (f := fun i => iab (Z i j)) (En.ez ?_))
    have h := n_lcA (K := K) (σ := [some u, some (.int (j : Int)), none]) (H := H1) (vs := [2]) (j := 2) (te := tCB (fun xs H Q => ∃ i, xs = [.int i] ∧ Q (.int (if i < 0 then -i else i)) H) (tCons (tOp (rIx K) (tVar 2) (tVar 1)) tNil)) (gd := fun i => .int (iab (Z i j))) (src_list (p_var (i := 0) rfl (L2.Dp.mono s1 du))).g (by rw [tab_len]; omega) (fun i hi x H2 s2 dx => by
      rw [tab_len] at hi
      rw [tab_getD hi] at dx
      exact (z_abs (z_ixL (i := j) (z_var (i := 2) rfl dx) (z_var (i := 1) rfl (.int _)) (tab_at hj))).en)
    rw [tab_len] at h
    exact h
end
end Ck
end

section
set_option Elab.async false
set_option linter.all false
set_option maxRecDepth 100000
set_option maxHeartbeats 4000000
/-! near. -/
namespace Ck
open PySem PySem.Spec PyProof.Rows L2
theorem scale_iff {x q c : Rat} (hc : 0 < c) : x * c ≤ q * c ↔ x ≤ q := by
  constructor
  · intro h
    by_cases e : x ≤ q
    · exact e
    · have e' : q < x := Rat.not_le.mp e
      have := Rat.mul_lt_mul_of_pos_right e' hc
      exact absurd h (Rat.not_le.mpr this)
  · intro h
    exact Rat.mul_le_mul_of_nonneg_right h (Rat.le_of_lt hc)
def NearAt (n : Nat) (G : Mx) (q : Rat) : Prop := ∀ j, j < n → nrm n G j ≤ q
theorem near_iff {n L : Nat} {G : Mx} {Z : Nat → Nat → Int} {q : Rat} (h : Sc n n G L Z) (hL : 0 < L) (h1 : 1 ≤ n) : (wid n (asum n Z) * (q.den : Int) ≤ q.num * (L : Int)) ↔ NearAt n G q := by
  obtain ⟨⟨j0, hj0, e⟩, hall⟩ := wid_spec (f := asum n Z) h1
  have hden : (0 : Rat) < ((q.den : Int) : Rat) := Rat.intCast_pos.mpr (by have := q.den_pos; omega)
  have hLp : (0 : Rat) < ((L : Int) : Rat) := Rat.intCast_pos.mpr (by omega)
  have key : ∀ j, j < n → (asum n Z j * (q.den : Int) ≤ q.num * (L : Int) ↔ nrm n G j ≤ q) := fun j hj => by
    rw [← Rat.intCast_le_intCast, Rat.intCast_mul, Rat.intCast_mul, asum_nrm h hj, num_eq]
    have hc : (0 : Rat) < ((L : Int) : Rat) * ((q.den : Int) : Rat) := Rat.mul_pos hLp hden
    have e1 : nrm n G j * ((L : Int) : Rat) * ((q.den : Int) : Rat) = nrm n G j * (((L : Int) : Rat) * ((q.den : Int) : Rat)) := by grind
    have e2 : q * ((q.den : Int) : Rat) * ((L : Int) : Rat) = q * (((L : Int) : Rat) * ((q.den : Int) : Rat)) := by grind
    rw [e1, e2, scale_iff hc]
  rw [e]
  constructor
  · intro hw j hj
    refine (key j hj).mp (Int.le_trans ?_ hw)
    have := hall j hj
    rw [e] at this
    exact Int.mul_le_mul_of_nonneg_right this (by omega)
  · intro hw
    exact (key j0 hj0).mpr (hw j0 hj0)
theorem gap0_le {n : Nat} {E : Mx} {A : Mx} (t : Tab n E) {j : Nat} (hj : j < n) : nrm n (gap n A E 0) j ≤ 2 := by
  have h : nrm n (gap n A E 0) j ≤ sm (rg n) fun i => idm i j + E i j := sm_le fun i hi => by
    show ab (idm i j - E i j) ≤ _
    have h1 := t.nn i j (List.mem_range.mp hi) hj
    have h2 : 0 ≤ idm i j := by unfold idm; split <;> decide
    exact ab_le (by grind) (by grind)
  rw [sm_add] at h
  have h1 := t.le j hj
  have h2 := (Tab.idm (n := n)).le j hj
  unfold col at h1 h2
  grind
theorem gap_le2 {n : Nat} {E A : Mx} (a : Tab n A) (t : Tab n E) {j : Nat} (hj : j < n) : ∀ k, nrm n (gap n A E k) j ≤ 2
  | 0 => gap0_le t hj
  | k + 1 => Rat.le_trans (gap_le a k j) (gap_le2 a t hj k)
theorem ab_nrm {n : Nat} {G : Mx} {i j : Nat} (hi : i < n) : ab (G i j) ≤ nrm n G j := sm_ge_one (f := fun i => ab (G i j)) (List.mem_range.mpr hi) fun x _ => ab_nonneg _
theorem sc_le2 {n L : Nat} {G : Mx} {Z : Nat → Nat → Int} (h : Sc n n G L Z) {i j : Nat} (hi : i < n) (hj : j < n) (hG : nrm n G j ≤ 2) : (Z i j).natAbs ≤ 2 * L := by
  have h1 := Rat.le_trans (ab_nrm (G := G) hi) hG
  have hL0 : (0 : Rat) ≤ ((L : Int) : Rat) := Rat.intCast_nonneg.mpr (by omega)
  have h2 := Rat.mul_le_mul_of_nonneg_right h1 hL0
  rw [ab_scale, h i j hi hj, ab_iab] at h2
  have e : (2 : Rat) * ((L : Int) : Rat) = ((2 * (L : Int) : Int) : Rat) := by rw [Rat.intCast_mul]; rfl
  rw [e] at h2
  have h3 := Rat.intCast_le_intCast.mp h2
  rw [iab_abs] at h3
  omega
theorem wid_le2 {n L : Nat} {G : Mx} {Z : Nat → Nat → Int} (h : Sc n n G L Z) (h1 : 1 ≤ n) (hG : ∀ j, j < n → nrm n G j ≤ 2) : (wid n (asum n Z)).natAbs ≤ 2 * L := by
  obtain ⟨⟨j0, hj0, e⟩, _⟩ := wid_spec (f := asum n Z) h1
  rw [e]
  have hL0 : (0 : Rat) ≤ ((L : Int) : Rat) := Rat.intCast_nonneg.mpr (by omega)
  have h2 := Rat.mul_le_mul_of_nonneg_right (hG j0 hj0) hL0
  rw [← asum_nrm h hj0] at h2
  have e2 : (2 : Rat) * ((L : Int) : Rat) = ((2 * (L : Int) : Int) : Rat) := by rw [Rat.intCast_mul]; rfl
  rw [e2] at h2
  have h3 := Rat.intCast_le_intCast.mp h2
  have h4 : (0 : Rat) ≤ ((asum n Z j0 : Int) : Rat) := by
    rw [asum_nrm h hj0]; exact Rat.mul_nonneg (sm_nonneg fun x _ => ab_nonneg _) hL0
  have h5 := Rat.intCast_nonneg.mp h4
  omega
section
variable {P : Program} {w : World} {K : Fg} {mg : Str → Option Value} {base : Heap}
theorem Er.ez {σ : L2.St} {H : Hp} {te : TE} {R : PyData → Prop} {d : PyData} (h : Er K te σ H R) (e : ∀ r, R r → r = d) : Ez K te σ H d := fun H1 s Q q => h H1 s Q fun r hr v H2 s2 dv => by
  rw [e r hr] at dv
  exact q v H2 s2 dv.dp
abbrev s_near : Stmt := topS 64
abbrev N_near : List Str := ["table", "nearness", "numbers", "scale", "final", "start", "gaps", "below", "rounds", "i", "j"]
theorem sc_near : FnScope N_near ["table", "nearness"] (defScope s_near) := ⟨rfl, rfl, rfl, by decide +kernel, rfl, by decide +kernel, by decide +kernel⟩
theorem b_near (T : Txt K mg) : Binds K (T.fd 46) ["table", "nearness"] [] := (T.F 46 _ rfl).binds (ps := ["table", "nearness"]) fun _ _ _ _ _ _ us hl => match us, hl with | [_, _], _ => rfl

def spNear (K : Fg) (C : Addr) : Sp := fun vs H Q E => ∃ (n : Nat) (A : Mx) (D p : Nat) (q : Rat), DpAll K H vs [tabD n A, frD q] ∧ S6 n A D ∧ 0 < q ∧ Bd 40 q ∧ PerT n A p ∧
  (∀ k, k ≤ 300 → NearAt n (gap n A (En0 n (pw n A p)) k) q → (∀ k', k' < k → ¬ NearAt n (gap n A (En0 n (pw n A p)) k') q) → ∀ H', Same H H' → Q (.int (k : Int)) H') ∧
  ((∀ k, k ≤ 300 → ¬ NearAt n (gap n A (En0 n (pw n A p)) k) q) → ∀ H' d, Same H H' → H' d = none → E (.ref C) (some d) (upd H' d (.xd [(("value" : Str), .int 300)])))
theorem ok_near {C DD fI : Addr} (T : Txt K mg) (TT : PySem.TooX.TooTxt P K mg C DD fI) : FnOk P w K mg base (L2.CX P w) 10 (T.fa 46) (T.fd 46) ["table", "nearness"] (spNear K C) := by
  refine (T.F 46 _ rfl).okX sc_near (fun vs H Q E h => ?_) (fun cdv A0 outer s H vs Q E hr h => ?_)
  · obtain ⟨_, _, _, _, _, hv, _⟩ := h; exact DpAll.len hv
  · obtain ⟨n, A, D, p, qq, hv, S, hq0, hqb, hp, kQ, kE⟩ := h
    obtain ⟨u, v, rfl, du, dv⟩ := two_of hv
    refine ⟨_, (pss_cons (ps_expr (pe_call (ok_need_table T) (hr.mono (by decide)) (by rfl) (T.g 25 _ rfl) (T.F 25 _ rfl).kp (b_need_table T) .nil pass0 (pa_cons (pv 0) pa_nil)))
      (pss_cons (ps_if (PW.pt (pw_or (pt_not (pt_val (pe_call (ok_is_fraction T) (hr.mono (by decide)) (by rfl) (T.g 2 _ rfl) (T.F 2 _ rfl).kp (b_is_fraction T) .nil pass0 (pa_cons (pv 1) pa_nil)))) (pw_or1 (pt_cmpR op_le (pe_ix (ix_seqK K) (pv 1) pe_int (fun _ _ => rfl)) pe_int (nomark _)))))
       (pss_one ps_never)
       pss_nil)
      (pss_cons (ps_asg (pe_call (ok_as_integers T) (hr.mono (by decide)) (by rfl) (T.g 29 _ rfl) (T.F 29 _ rfl).kp (b_as_integers T) .nil pass0 (pa_cons (pv 0) pa_nil)) (pg_tupK K (n := 2) rfl (pgs_cons (pg_name (i := 2) sc_near.nd rfl (Or.inl rfl)) (pgs_cons (pg_name (i := 3) sc_near.nd rfl (Or.inl rfl)) pgs_nil))))
      (pss_cons (ps_set (i := 4) sc_near.nd rfl (Or.inr rfl) (pe_call (ok_end_of T) (hr.mono (by decide)) (by rfl) (T.g 42 _ rfl) (T.F 42 _ rfl).kp (b_end_of T) .nil pass0 (pa_cons (pe_call (ok_power T) (hr.mono (by decide)) (by rfl) (T.g 32 _ rfl) (T.F 32 _ rfl).kp (b_power T) .nil pass0 (pa_cons (pv 0) (pa_cons (pe_call (ok_period T) (hr.mono (by decide)) (by rfl) (T.g 39 _ rfl) (T.F 39 _ rfl).kp (b_period T) .nil pass0 (pa_cons (pv 0) pa_nil)) pa_nil))) pa_nil)))
      (pss_cons (ps_setLc (i := 5) (own := [("i", 9)])  rfl sc_near.nd rfl rfl (sw_true rfl rfl rfl (by decide +kernel)) (pi_range1 (by rfl) (T.n "range") (pa_cons (pe_callB (call_lenK K) (by rfl) (T.n "len") PySem.boot_len (pa_cons (pv 0) pa_nil)) pa_nil)) (blkOk_by (N := N_near) (sc := defScope s_near) (by decide +kernel)) (fun _ _ _ _ _ => (pg_name (i := 9) sc_near.nd rfl (Or.inr rfl))) (fun _ _ _ _ _ => pts_nil) (fun _ _ _ _ _ => (pe_lc (own := [("j", 10)])  rfl sc_near.nd (pi_range1 (by rfl) (T.n "range") (pa_cons (pe_callB (call_lenK K) (by rfl) (T.n "len") PySem.boot_len (pa_cons (pv 0) pa_nil)) pa_nil)) (blkOk_by (N := N_near) (sc := (relS ({ kind := PySem.ScopeKind.function, names := [ (PySem.Str.ofString ".0", PySem.NameKind.local), (PySem.Str.ofString "i", PySem.NameKind.cell), (PySem.Str.ofString "range", PySem.NameKind.globalImplicit), (PySem.Str.ofString "len", PySem.NameKind.globalImplicit), (PySem.Str.ofString "final", PySem.NameKind.free), (PySem.Str.ofString "table", PySem.NameKind.free)], isGenerator := false, isCoroutine := false, more := [] : PySem.Scope }) (defScope s_near))) (by decide +kernel)) (fun _ _ _ _ _ => (pg_name (i := 10) sc_near.nd rfl (Or.inl rfl))) (fun _ _ _ _ _ => pts_nil) (fun _ _ _ _ _ => (pe_call (ok_less T) (hr.mono (by decide)) (by rfl) (T.g 9 _ rfl) (T.F 9 _ rfl).kp (b_less T) .nil pass0 (pa_cons (pe_tup (pa_cons (pe_callTy call_int1 (by rfl) (T.n "int") (by decide +kernel) (pa_cons (pe_cmpR (op_eqK K hr.units) (pv 9) (pv 10) (nomark _)) pa_nil)) (pa_cons pe_int pa_nil))) (pa_cons (pe_ix (ix_seqK K) (pe_ix (ix_seqK K) (pv 4) (pv 9) (fun _ _ => rfl)) (pv 10) (fun _ _ => rfl)) pa_nil)))))))
      (pss_cons (ps_asg (pe_call (ok_as_integers T) (hr.mono (by decide)) (by rfl) (T.g 29 _ rfl) (T.F 29 _ rfl).kp (b_as_integers T) .nil pass0 (pa_cons (pv 5) pa_nil)) (pg_tupK K (n := 2) rfl (pgs_cons (pg_name (i := 6) sc_near.nd rfl (Or.inl rfl)) (pgs_cons (pg_name (i := 7) sc_near.nd rfl (Or.inl rfl)) pgs_nil))))
      (pss_cons (ps_for (passes_of rfl) rfl (pi_range1 (by rfl) (T.n "range") (pa_cons pe_int pa_nil)) (pg_name (i := 8) sc_near.nd rfl (Or.inl rfl))
       (pss_cons (ps_if (pt_cmpR op_le (pe_op op_mulX (pe_call (ok_widest T) (hr.mono (by decide)) (by rfl) (T.g 45 _ rfl) (T.F 45 _ rfl).kp (b_widest T) .nil pass0 (pa_cons (pv 6) pa_nil)) (pe_ix (ix_seqK K) (pv 1) pe_int (fun _ _ => rfl))) (pe_op op_mulX (pe_ix (ix_seqK K) (pv 1) pe_int (fun _ _ => rfl)) (pv 7)) (nomark _))
        (pss_one (ps_ret (pv 8)))
        pss_nil)
       (pss_one (ps_asg (pe_call (ok_shortened T) (hr.mono (by decide)) (by rfl) (T.g 44 _ rfl) (T.F 44 _ rfl).kp (b_shortened T) .nil pass0 (pa_cons (pe_call (ok_integer_product T) (hr.mono (by decide)) (by rfl) (T.g 31 _ rfl) (T.F 31 _ rfl).kp (b_integer_product T) .nil pass0 (pa_cons (pv 2) (pa_cons (pv 6) pa_nil))) (pa_cons (pe_op op_mulX (pv 7) (pv 3)) pa_nil))) (pg_tupK K (n := 2) rfl (pgs_cons (pg_name (i := 6) sc_near.nd rfl (Or.inl rfl)) (pgs_cons (pg_name (i := 7) sc_near.nd rfl (Or.inl rfl)) pgs_nil)))))))
      (pss_one (ps_raiseToo rfl TT hr (takes_of rfl rfl rfl rfl) (pa_cons pe_int pa_nil)))))))))), ?_⟩
    have tb := S.tb
    have h5 := tb.n5
    have h1 := tb.n1
    obtain ⟨p1, p6, _⟩ := hp.bds tb.tab h5
    refine s_expr (z_call (a_one (z_var (i := 0) rfl du)) ⟨n, A, rfl, tb, rfl⟩) fun H1 s1 => ?_
    refine s_pass ?_ fun H2 s2 => ?_
    · refine t_or (b := false) (c := false) (t_not (b := true) (t_val (K := K) (z_call (a_one (z_var (i := 1) rfl (L2.Dp.mono s1 dv))) ⟨_, rfl, rfl⟩))) fun _ => t_val (K := K) ?_
      have h := z_cmp (K := K) (p := fun i j => decide (i ≤ j)) (z_num (z_var (σ := start N_near [u, v]) (i := 1) rfl (L2.Dp.mono s1 dv))) z_int (j := 0)
      rw [decide_eq_false (show ¬ qq.num ≤ 0 by have := num_pos'.mpr hq0; omega)] at h
      exact h
    have s12 := s1.trans s2
    have du2 := L2.Dp.mono s12 du
    -- numbers, scale
    refine r_call (K := K) (a_one (z_var (i := 0) rfl du2)) ⟨_, fun i => rowT n (A i), n, n, A, D, 3000, rfl, .inr rfl, fun i hi => .inr rfl, by omega, by omega, S.pos, Nat.lt_of_le_of_lt S.le (lt_pw (x := 3) (by decide) (by decide)), by decide, fun i j hi hj => ⟨S.dn i j hi hj, tb.bd hi hj⟩, rfl⟩ fun r hr2 v3 H3 s3 d3 => ?_
    obtain ⟨Z0, sc, hsc, hscD, hZ0, rfl⟩ := hr2
    obtain ⟨ta, y1, y2, rfl, hT, dnum, dy2⟩ := dn_pair d3
    refine g2_any hT ?_
    cases dy2
    dsimp only
    have s13 := s12.trans s3
    have du3 := L2.Dp.mono s13 du
    have hsc6 : sc ≤ 6 := Nat.le_trans (Nat.le_of_dvd S.pos hscD) S.le
    -- final
    refine s_set (K := K) (d := tabD n (En0 n (pw n A p))) (z_call (a_one (z_call (a_cons (z_var (i := 0) rfl du3) (a_one (Er.ez (er_call (a_one (z_var (i := 0) rfl du3)) ⟨n, A, rfl, tb, rfl⟩) (fun r ⟨p', hp', e⟩ => by rw [e, hp'.uniq hp])))) ⟨n, A, p, D, rfl, tb, S.pos, S.dn, S.big (by omega), rfl⟩)) ⟨n, pw n A p, D ^ p, rfl, S.pwTb (by omega), Nat.pow_pos S.pos, pow66 S.pos S.le p6, den_pw S.pos S.dn p, rfl⟩) fun v4 H4 s4 d4 => ?_
    obtain ⟨ED, hE0, hE9, hEd⟩ := S.lmD (p := p) p6
    have hEd0 := hEd 0 (by decide)
    have tE := en_tab (tb.tab.pw p)
    have bE : ∀ {i j}, i < n → j < n → Bd 826 (En0 n (pw n A p) i j) := fun hi hj => (S.lm (p := p) p6 (k := 0) (by decide)).2 _ _ hi hj
    have s14 := s13.trans s4
    have du4 := L2.Dp.mono s14 du
    generalize hEdef : En0 n (pw n A p) = E0 at *
    -- start
    refine s_set (K := K) (d := matL n n (gap n A E0 0)) (En.ez ?_) fun v5 H5 s5 d5 => ?_
    · have hl := p_lenT (K := K) (σ := [some u, some v, some y1, some (.int (sc : Int)), some v4, none, none, none, none, none, none]) (p_var (i := 0) rfl du4)
      rw [tab_len] at hl
      refine n_lcA (src_r1 (ap_one hl) (by omega)).g (by omega) fun i hi z H6 s6 dz => ?_
      cases dz
      have hl2 := p_lenT (K := K) (σ := [some u, some v, some y1, some (.int (sc : Int)), some v4, none, none, none, none, some (.int (i : Int)), none]) (p_var (i := 0) rfl (L2.Dp.mono s6 du4))
      rw [tab_len] at hl2
      refine n_lcA (src_r1 (ap_one hl2) (by omega)).g (by omega) fun j hj z H7 s7 dz => ?_
      cases dz
      exact n_call (a_cons (z_del (i := i) (j := j) (z_var (i := 9) rfl (.int _)) (z_var (i := 10) rfl (.int _))) (a_one (z_rowT (i := j) (z_matT (i := i) (z_var (i := 4) rfl (L2.Dp.mono (s6.trans s7) d4)) (z_var (i := 9) rfl (.int _)) hi) (z_var (i := 10) rfl (.int _)) hj))) ⟨_, _, 16, 826, rfl, bd_del, bE hi hj, by decide, rfl⟩
    -- gaps, below
    have hden0 : ∀ i j, i < n → j < n → (gap n A E0 0 i j).den ∣ ED ∧ Bd 826 (gap n A E0 0 i j) := fun i j hi hj => by
      have a1 : (gap n A E0 0 i j).den ∣ ED := den_sub hE0 (by rw [den_idm]; exact Nat.one_dvd _) (hEd0 i j hi hj)
      have h2 : 0 ≤ idm i j ∧ idm i j ≤ 1 := by unfold idm; split <;> exact ⟨by decide, by decide⟩
      have a2 : ab (gap n A E0 0 i j) ≤ 1 := ab_diff h2.1 h2.2 (tE.nn i j hi hj) (tE.le1 hi hj)
      have fb : Fb ED 1 (gap n A E0 0 i j) := ⟨a1, num_le.mpr (by rw [show ((1 : Nat) : Int) = 1 from rfl, Rat.intCast_one]; exact a2)⟩
      exact ⟨a1, fb.bd hE0 (Nat.le_refl _) (by rw [Nat.one_mul]; exact hE9)⟩
    refine r_call (K := K) (a_one (z_var (i := 5) rfl d5)) ⟨_, fun i => rowL n (gap n A E0 0 i), n, n, gap n A E0 0, ED, 826, rfl, .inl rfl, fun i hi => .inl rfl, by omega, by omega, hE0, lt_pw hE9 (by decide), by decide, hden0, rfl⟩ fun r hr2 v6 H6 s6 d6 => ?_
    obtain ⟨G0, L0, hL0, hLE, hG0, rfl⟩ := hr2
    obtain ⟨tc, y3, y4, rfl, hT, dgap, dy4⟩ := dn_pair d6
    refine g2_any hT ?_
    cases dy4
    dsimp only
    have s16 := (s14.trans s5).trans s6
    have hL0E : L0 < 2 ^ 826 := Nat.lt_of_le_of_lt (Nat.le_of_dvd hE0 hLE) hE9
    have dn6 := L2.Dp.mono ((s4.trans s5).trans s6) dnum.dp
    have dv6 := L2.Dp.mono s16 dv
    refine s_forHS (K := K) (Hb := H6) (n := 301) (it := fun i => .int (i : Int)) (fun k σ' H' => ∃ (Z : Nat → Nat → Int) (L : Nat) (yg : V) (y8 : Option V), σ' = [some u, some v, some y1, some (.int (sc : Int)), some v4, some v5, some yg, some (.int (L : Int)), y8, none, none] ∧ Same H6 H' ∧ Dp K H' yg (intsM n n Z) ∧ Sc n n (gap n A E0 k) L Z ∧ 0 < L ∧ L < 2 ^ (826 + 3 * k) ∧ ∀ k', k' < k → ¬ NearAt n (gap n A E0 k') qq)
      (srcH_r1 (ap_one (p_int (i := 301))) (by decide)) ⟨G0, L0, y3, none, rfl, Same.refl _, dgap.dp, hG0, hL0, hL0E, fun k' h => absurd h (Nat.not_lt_zero _)⟩ (fun k σ' H' q => ?_) (fun k σ' H' hk q3 x dx => ?_) (fun σ' H' q3 => ?_)
    · obtain ⟨_, _, _, _, _, s', _⟩ := q; exact s'
    · obtain ⟨Z, L, yg, y8, rfl, s', dg, hZ, hL, hLs, hno⟩ := q3
      cases dx
      have hL9 : L < 2 ^ 1740 := lt_pw hLs (by omega)
      have hg2 : ∀ j, j < n → nrm n (gap n A E0 k) j ≤ 2 := fun j hj => gap_le2 tb.tab tE hj k
      have hwid : (wid n (asum n Z)).natAbs < 2 ^ 1742 := Nat.lt_of_le_of_lt (wid_le2 hZ h1 hg2) (by
        have : 2 * L < 2 * 2 ^ 1740 := by omega
        exact lt_pw (x := 1741) (by rw [Nat.pow_succ]; omega) (by decide))
      have dv' := L2.Dp.mono s' dv6
      have zv : ∀ {H2 : Hp}, Same H' H2 → Ez K (tVar 1) [some u, some v, some y1, some (.int (sc : Int)), some v4, some v5, some yg, some (.int (L : Int)), some (.int (k : Int)), none, none] H2 (frD qq) := fun s => z_var (i := 1) rfl (L2.Dp.mono s dv')
      refine s_if (b := decide (wid n (asum n Z) * (qq.den : Int) ≤ qq.num * (L : Int))) (t_val (z_cmp (K := K) (p := fun i j => decide (i ≤ j)) (z_mul (z_call (a_one (z_var (i := 6) rfl dg)) ⟨n, Z, rfl, h1, by omega, rfl⟩) (z_den (zv (Same.refl _))) (mulok hwid (nat_abs hqb.2) (by decide))) (z_mul (z_num (zv (Same.refl _))) (z_var (i := 7) rfl (.int _)) (mulok hqb.1 (nat_abs hL9) (by decide))))) (fun hb H7 s7 => ?_) (fun hb H7 s7 => ?_)
      · have hb := (near_iff hZ hL h1).mp (of_decide_eq_true hb)
        exact s_ret (K := K) (Ez.en (z_var (i := 8) rfl (.int _))) fun v9 H9 s9 d9 => by
          cases d9
          exact kQ k (by omega) hb hno _ ((s16.trans s').trans (s7.trans s9))
      · have hb : ¬ NearAt n (gap n A E0 k) qq := fun h => of_decide_eq_false hb ((near_iff hZ hL h1).mpr h)
        have hZb : ∀ i j, i < n → j < n → (Z i j).natAbs < 2 ^ 1742 := fun i j hi hj => Nat.lt_of_le_of_lt (sc_le2 hZ hi hj (hg2 j hj)) (by
          have : 2 * L < 2 * 2 ^ 1740 := by omega
          exact lt_pw (x := 1741) (by rw [Nat.pow_succ]; omega) (by decide))
        have hscs : sc < 2 ^ 1742 := Nat.lt_of_le_of_lt hsc6 (lt_pw (x := 3) (by decide) (by decide))
        have hLsc : L * sc < 2 ^ (826 + 3 * (k + 1)) := by
          have a1 : sc < 2 ^ 3 := by omega
          have := lt_mul hLs a1
          rw [show 826 + 3 * (k + 1) = 826 + 3 * k + 3 by omega]; exact this
        refine r_call (K := K) (a_cons (z_call (a_cons (z_var (i := 2) rfl (L2.Dp.mono (s'.trans s7) dn6)) (a_one (z_var (i := 6) rfl (L2.Dp.mono s7 dg)))) ⟨n, n, n, Z0, Z, 1742, rfl, by omega, h1, by omega, by omega, fun i j hi hj => hZ0.bd tb.tab hscs hi hj, hZb, by decide, rfl⟩) (a_one (z_mul (z_var (i := 7) rfl (.int _)) (z_var (i := 3) rfl (.int _)) (mulok (nat_abs hL9) (nat_abs hscs) (by decide))))) ⟨n, n, fun i j => isum n fun k => Z0 i k * Z k j, L * sc, ?_, by omega, by omega, Nat.mul_pos hL hsc, lt_pw hLsc (by omega), rfl⟩ fun r hr2 v8 H8 s8 d8 => ?_
        · rw [Int.natCast_mul]
        obtain ⟨Z', L', g, hL', hg, hLg, hZg, rfl⟩ := hr2
        obtain ⟨td, y5, y6, rfl, hT, dg', dy6⟩ := dn_pair d8
        refine g2_any hT ?_
        cases dy6
        have hle : L' ≤ L * sc := by rw [hLg]; exact Nat.le_mul_of_pos_right _ hg
        refine ⟨Z', L', y5, _, rfl, s'.trans (s7.trans s8), dg'.dp, fun i j hi hj => ?_, hL', Nat.lt_of_le_of_lt hle hLsc, fun k' hk' => ?_⟩
        · have e := hZ0.mul hZ i j hi hj
          have e2 := hZg i j hi hj
          have e3 : sc * L = L' * g := by rw [Nat.mul_comm]; exact hLg
          rw [e3, e2, Int.natCast_mul, Rat.intCast_mul, Rat.intCast_mul] at e
          have hg0 : ((g : Int) : Rat) ≠ 0 := by
            have : (0 : Rat) < ((g : Int) : Rat) := Rat.intCast_pos.mpr (by omega)
            grind
          show mul n A (gap n A E0 k) i j * _ = _
          generalize mul n A (gap n A E0 k) i j = X at e ⊢
          generalize ((Z' i j : Int) : Rat) = Y at e ⊢
          generalize ((L' : Int) : Rat) = M at e ⊢
          generalize ((g : Int) : Rat) = GG at e hg0
          have : (X * M - Y) * GG = 0 := by grind
          rcases Rat.mul_eq_zero.mp this with h | h
          · grind
          · exact absurd h hg0
        · by_cases e : k' = k
          · subst e; exact hb
          · exact hno k' (by omega)
    · obtain ⟨Z, L, yg, y8, rfl, s', dg, hZ, hL, hLs, hno⟩ := q3
      exact ⟨_, rfl, fun d hd => kE (fun k hk => hno k (by omega)) H' d (s16.trans s') hd⟩
end
end Ck
end

section
set_option Elab.async false
set_option linter.all false
set_option maxRecDepth 100000
set_option maxHeartbeats 4000000
/-! fills: two kinds. -/
namespace Ck
open PySem PySem.Spec PyProof.Rows L2
def kn (k : Nat) : Str := if k = 0 then Str.ofString "r" else Str.ofString "red"
def ents (a : Nat → Rat) : List Nat := (rg 2).filter fun k => decide (0 < a k)
theorem mem_ents {a : Nat → Rat} {k : Nat} : k ∈ ents a ↔ k < 2 ∧ 0 < a k := by
  unfold ents; rw [List.mem_filter, List.mem_range]
  exact ⟨fun h => ⟨h.1, of_decide_eq_true h.2⟩, fun h => ⟨h.1, decide_eq_true h.2⟩⟩
theorem ents_len {a : Nat → Rat} : (ents a).length ≤ 2 := by
  unfold ents
  have := List.length_filter_le (fun k => decide (0 < a k)) (rg 2)
  rw [List.length_range] at this; exact this
theorem ents_lt {a : Nat → Rat} : (ents a).Pairwise (· < ·) := List.Pairwise.filter _ List.pairwise_lt_range
theorem ents_nodup {a : Nat → Rat} : (ents a).Nodup := by unfold ents; exact List.nodup_range.filter _
theorem ents_congr {a b : Nat → Rat} (h : ∀ k, k < 2 → (0 < a k ↔ 0 < b k)) : ents a = ents b := by
  unfold ents
  exact List.filter_congr fun k hk => decide_eq_decide.mpr (h k (List.mem_range.mp hk))
def entD (a : Nat → Rat) (k : Nat) : PyData := .tuple [.str (kn k), frD (a k)]
def fillD (a : Nat → Rat) : PyData := .tuple ((ents a).map (entD a))
theorem fillD_congr {a b : Nat → Rat} (h : ∀ k, k < 2 → a k = b k) : fillD a = fillD b := by
  unfold fillD
  rw [ents_congr fun k hk => by rw [h k hk]]
  congr 1
  exact List.map_congr_left fun k hk => by unfold entD; rw [h k (mem_ents.mp hk).1]
theorem flat_fill {a : Nat → Rat} : flatD (fillD a) = true := flats_map fun _ => rfl
theorem kn_len (k : Nat) : 1 ≤ (kn k).length ∧ (kn k).length ≤ 3 := by unfold kn; split <;> decide +kernel
theorem kn_letters (k : Nat) : ∀ i, i < (kn k).cps.size → decide ((kn k).cps.toList.getD i 0 ∈ (Str.ofString "abcdefghijklmnopqrstuvwxyz").cps.toList) = true := by
  unfold kn; split <;> decide +kernel
theorem kn_lt : decide ((kn 0).cps.toList < (kn 1).cps.toList) = true := by decide +kernel
section
variable {P : Program} {w : World} {K : Fg} {mg : Str → Option Value} {base : Heap}
section
variable {σ : L2.St} {H Hb : Hp} {ta tb te : TE} {wi : TI} {n : Nat} {it it' : Nat → PyData} {z : Str} {ds es : List PyData}
theorem Src1.congr (h : Src1 K wi σ Hb n it) (e : ∀ i, i < n → it i = it' i) : Src1 K wi σ Hb n it' := fun H1 s R q => h H1 s R fun J j => q J ⟨j.go, fun H i x H' s hi y => by
  obtain ⟨a, b⟩ := j.yld H i x H' s hi y
  rw [e i hi] at b
  exact ⟨a, b⟩, j.stop⟩
theorem src_str (h : Ep K te σ Hb (.str z)) : Src1 K (iStr te) σ Hb z.cps.size fun i => .str ⟨#[z.cps.toList.getD i 0]⟩ := fun H1 s R q => h H1 s _ fun v dv => by
  cases dv
  refine ⟨z, rfl, q _ ⟨fun H i _ hi => hi, fun H i x H' _ hi y => ?_, fun H _ => Nat.le_refl _⟩⟩
  obtain ⟨e, c, hc, ex⟩ := y
  subst ex
  have e2 : z.cps.toList.getD i 0 = c := by
    rw [List.getD_eq_getElem?_getD, Array.getElem?_toList, hc]; rfl
  rw [e2]
  exact ⟨e, .str _⟩
theorem z_lenS (ha : Ez K ta σ H (.str z)) (hz : z.length ≤ 1000) : Ez K (tCB (rLenX K) (tCons ta tNil)) σ H (.int z.length) := z_cb (a_one ha) fun vs H1 s dv Q q => by
  obtain ⟨x, rfl, dx⟩ := one_of dv
  cases dx
  exact .inr ⟨z, rfl, Nat.le_trans hz (by decide), q _ _ (Same.refl _) (.int _)⟩
theorem z_sign {c : Nat} (ha : Ez K ta σ H (.str ⟨#[c]⟩)) : Ez K (tOp (fun x y H Q => ∃ (c : Nat) (z : Str), x = .str ⟨#[c]⟩ ∧ y = .str z ∧ Q (.bl (decide (c ∈ z.cps.toList))) H) ta (tC (.str z))) σ H (.bool (decide (c ∈ z.cps.toList))) := z_op ha z_str fun x y H1 s dx dy Q q => by
  cases dx; cases dy
  exact ⟨c, z, rfl, rfl, q _ _ (Same.refl _) (.bl _)⟩
theorem z_ltS {i j : Str} (ha : Ez K ta σ H (.str i)) (hb : Ez K tb σ H (.str j)) : Ez K (tOp (fun x y H Q => ∃ i j, x = .str i ∧ y = .str j ∧ Q (.bl (decide (i.cps.toList < j.cps.toList))) H) ta tb) σ H (.bool (decide (i.cps.toList < j.cps.toList))) := z_op ha hb fun x y H1 s dx dy Q q => by
  cases dx; cases dy
  exact ⟨i, j, rfl, rfl, q _ _ (Same.refl _) (.bl _)⟩
def SrcG2 (K : Fg) (wi : TI) (σ : L2.St) (H : Hp) (n : Nat) (it1 it2 : Nat → PyData) : Prop := ∀ H1, Same H H1 → ∀ R : It → Hp → Prop, (∀ J H2, Same H1 H2 → Src2At K J H2 n it1 it2 → R J H2) → wi σ H1 R
theorem n_lc2G {j k : Nat} {vs : List Nat} {it1 it2 : Nat → PyData} {gd : Nat → PyData} (hs : SrcG2 K wi σ H n it1 it2) (hn : n ≤ 1000)
    (he : ∀ i, i < n → ∀ x y H1, Same H H1 → Dp K H1 x (it1 i) → Dp K H1 y (it2 i) → En K te (((wipe σ vs).set j (some x)).set k (some y)) H1 (gd i))
    (hw : ∀ x y : V, wipe (((wipe σ vs).set j (some x)).set k (some y)) vs = wipe σ vs := by intro _ _; rfl) : En K (tLc wi (g2 K j k) tYes te vs) σ H (.list (tab n gd)) := by
  intro H1 s Q q
  refine hs H1 s _ fun J H2 s2 sa D hD => ?_
  refine ⟨fun i m Hc => m = n - i ∧ i ≤ n ∧ LcInv K H2 D (tab i gd) Hc, ⟨n, by simp, Nat.zero_le _, LcF.start hD⟩, ?_⟩
  rintro i m Hc ⟨rfl, hi, I⟩
  by_cases hlt : i < n
  · refine .inr ⟨sa.go Hc i I.same hlt, fun Hn => LcInv K H2 D (tab (i + 1) gd) Hn, fun Hn z => ⟨n - (i + 1), by omega, rfl, hlt, z⟩, fun v H' hy => ?_⟩
    obtain ⟨T, x, y, rfl, nT, rfl, dx, dy⟩ := sa.yld Hc i v H' I.same hlt hy
    have sT := same_new (o := .tup [x, y]) nT
    have sc : Same H2 (upd Hc T (.tup [x, y])) := I.same.trans sT
    refine g2_to upd_same ⟨hw x y, ?_⟩
    refine t_yes _ (Same.refl _) _ fun H3 s3 => ?_
    rw [if_pos rfl]
    have hl : (tab i gd).length ≤ 1000 := by rw [tab_len]; omega
    have I3 : LcInv K H2 D (tab i gd) H3 := I.same' (sT.trans s3)
    refine he i hlt x y H3 ((s.trans s2).trans (sc.trans s3)) (L2.Dp.mono (sc.trans s3) dx) (L2.Dp.mono (sc.trans s3) dy) H3 (Same.refl _) _ fun z H4 s4 dz => ?_
    rw [tab_succ]
    exact I3.grow hD s4 dz hl
  · have e : i = n := by omega
    subst e
    obtain ⟨h1, h2⟩ := I.done s2 hD
    exact .inl ⟨sa.stop Hc I.same, q _ _ h1 h2⟩
theorem cutV_1 {xs : List V} : cutV xs (some 1) none = xs.drop 1 := by
  cases xs with
  | nil => rfl
  | cons a l =>
    unfold cutV
    have e1 : HT.sIx (a :: l).length 0 (some 1) = 1 := by
      unfold HT.sIx
      simp
      try omega
    have e2 : HT.sIx (a :: l).length (a :: l).length none = (a :: l).length := by unfold HT.sIx; rfl
    rw [e1, e2]
    simp
/-- zip(xs, xs[1:]) -/
theorem srcG_shift {i : Nat} {v : V} (hi : σ[i]? = some (some v)) (dv : Dp K H v (.list ds)) (hf : flatDs ds = true) : SrcG2 K (iZipX K (tCons (tVar i) (tCons (tSl (rSlL K) (tVar i) (tPart (tC (.int 1))) tNoPart) tNil))) σ H (ds.length - 1) (fun i => ds.getD i .none) (fun i => (ds.drop 1).getD i .none) := by
  intro H1 s R q
  obtain ⟨a, xs, rfl, hs, hx⟩ := (L2.Dp.mono s dv).isLst
  refine ⟨.ref a, hi, .ref a, hi, 1, rfl, a, xs, rfl, hs, fun p hp => ?_⟩
  rw [cutV_1]
  have sp := same_new (o := .lst (xs.drop 1)) hp
  have hx2 : DpAll K (upd H1 p (.lst (xs.drop 1))) (xs.drop 1) (ds.drop 1) := by
    refine DpAll.mono sp ?_
    cases ds with
    | nil => cases hx; exact .nil
    | cons d ds => cases hx with
      | cons _ h => exact h
  have hxs := DpAll.mono sp hx
  have hs2 : SqL K (upd H1 p (.lst (xs.drop 1))) a xs := L2.Same.seq sp hs
  have hs3 : SqL K (upd H1 p (.lst (xs.drop 1))) p (xs.drop 1) := SqL.of upd_same
  have hl := hx.len
  have W := walk_zip (K := K) (a := a) (b := p) (xs := xs) (ys := xs.drop 1) (n := ds.length - 1) (by rw [List.length_drop, hl]; omega)
  refine ⟨a, p, xs, xs.drop 1, rfl, .inl ⟨hs2, hs3, q _ _ sp ⟨fun H i s3 hi => W.goes i H hi ⟨L2.Same.seq s3 hs2, L2.Same.seq s3 hs3⟩, fun H i v H' s3 hi y => ?_, fun H s3 => W.stops H ⟨L2.Same.seq s3 hs2, L2.Same.seq s3 hs3⟩⟩⟩⟩
  obtain ⟨T, x, z, h1, h2, h3, h4, h5⟩ := W.yields i H v H' hi ⟨L2.Same.seq s3 hs2, L2.Same.seq s3 hs3⟩ y
  obtain ⟨d, hd, dv⟩ := hxs.at' h4
  obtain ⟨d', hd', dv'⟩ := hx2.at' h5
  refine ⟨T, x, z, h1, h2, h3, ?_, ?_⟩
  · rw [List.getD_eq_getElem?_getD, hd]; exact dv
  · rw [List.getD_eq_getElem?_getD, hd']; exact dv'
end
abbrev s_is_kind : Stmt := topS 13
abbrev N_is_kind : List Str := ["value", "letter"]
theorem sc_is_kind : FnScope N_is_kind ["value"] (defScope s_is_kind) := ⟨rfl, rfl, rfl, by decide +kernel, rfl, by decide +kernel, by decide +kernel⟩
theorem b_is_kind (T : Txt K mg) : Binds K (T.fd 1) ["value"] [] := (T.F 1 _ rfl).binds (ps := ["value"]) fun _ _ _ _ _ _ us hl => match us, hl with | [_], _ => rfl

theorem ok_is_kind (T : Txt K mg) : FnOk P w K mg base CX0 1 (T.fa 1) (T.fd 1) ["value"] (spD K fun ds r => ∃ k : Nat, ds = [.str (kn k)] ∧ r = .bool true) := by
  refine okD (T.F 1 _ rfl) sc_is_kind (fun ds r h => ?_) (fun cdv A0 outer s H vs Q E ds r hr hv hp q => ?_)
  · obtain ⟨_, rfl, _⟩ := h; rfl
  · obtain ⟨k, rfl, rfl⟩ := hp
    obtain ⟨u, rfl, du⟩ := one_of hv
    refine ⟨_, (pss_cons (ps_if (PW.pt (pw_or (pt_not (pt_val (pe_callB (call_isiQ K) (by rfl) (T.n "isinstance") (by decide +kernel) (pa_cons (pv 0) (pa_cons (pe_bltn (v := .ty "str") (by rfl) (T.n "str") (by decide +kernel) rfl) pa_nil))))) (pw_or1 (pt_not (pt_chain op_le op_le pe_int (pe_callB (call_lenK K) (by rfl) (T.n "len") PySem.boot_len (pa_cons (pv 0) pa_nil)) pe_int)))))
       (pss_one (ps_ret pe_bl))
       pss_nil)
      (pss_one (ps_ret (pe_callB (cr_allK K rfl) (by rfl) (T.n "all") (by decide +kernel) (pa_cons (pe_lc (own := [("letter", 1)])  rfl sc_is_kind.nd (pi_str (pv 0)) (blkOk_by (N := N_is_kind) (sc := defScope s_is_kind) (by decide +kernel)) (fun _ _ _ _ _ => (pg_name (i := 1) sc_is_kind.nd rfl (Or.inl rfl))) (fun _ _ _ _ _ => pts_nil) (fun _ _ _ _ _ => (pe_cmpR op_in_sign (pv 1) pe_str (by rfl)))) pa_nil))))), ?_⟩
    obtain ⟨l1, l3⟩ := kn_len k
    refine s_pass ?_ fun H1 s1 => ?_
    · refine t_or (b := false) (c := false) (t_not (b := true) (t_val (K := K) (z_isi (z_var (i := 0) rfl du)))) fun _ => t_not (b := true) (t_val (K := K) ?_)
      have h := z_chain (K := K) (p := fun i j => decide (i ≤ j)) (p' := fun i j => decide (i ≤ j)) (z_int (i := 1)) (z_lenS (z_var (σ := start N_is_kind [u]) (H := H) (i := 0) rfl du) (by omega)) (z_int (i := 8))
      rw [decide_eq_true (show (1 : Int) ≤ (kn k).length by omega), decide_eq_true (show ((kn k).length : Int) ≤ 8 by omega)] at h
      exact h
    refine s_ret (K := K) (d := .bool true) (Ez.en (z_allT (n := (kn k).cps.size) (p := fun i => decide ((kn k).cps.toList.getD i 0 ∈ (Str.ofString "abcdefghijklmnopqrstuvwxyz").cps.toList)) (En.ez ?_) (kn_letters k))) fun v H2 s2 d2 => q v H2 (s1.trans s2) (Dn.anti s1 d2)
    refine n_lcA (src_str (p_var (i := 0) rfl (L2.Dp.mono s1 du))).g (by show (kn k).length ≤ 1000; omega) fun i hi x H2 s2 dx => ?_
    exact (z_sign (z_var (i := 1) rfl dx)).en
abbrev s_is_fill : Stmt := topS 31
abbrev N_is_fill : List Str := ["value", "entry", "kinds", "one", "other"]
theorem sc_is_fill : FnScope N_is_fill ["value"] (defScope s_is_fill) := ⟨rfl, rfl, rfl, by decide +kernel, rfl, by decide +kernel, by decide +kernel⟩
theorem b_is_fill (T : Txt K mg) : Binds K (T.fd 16) ["value"] [] := (T.F 16 _ rfl).binds (ps := ["value"]) fun _ _ _ _ _ _ us hl => match us, hl with | [_], _ => rfl

theorem ent_at {a : Nat → Rat} {i : Nat} (h : i < (ents a).length) : ((ents a).map (entD a)).getD i .none = entD a ((ents a).getD i 0) := by
  rw [List.getD_eq_getElem?_getD, List.getElem?_map, List.getElem?_eq_getElem h, List.getD_eq_getElem?_getD, List.getElem?_eq_getElem h]; rfl
theorem src_fill {σ : L2.St} {Hb : Hp} {te : TE} {a : Nat → Rat} (h : Ep K te σ Hb (fillD a)) : Src1 K (iTup K te) σ Hb (ents a).length fun i => .tuple [.str (kn ((ents a).getD i 0)), frD (a ((ents a).getD i 0))] := by
  have h2 := src_tup h
  rw [List.length_map] at h2
  exact h2.congr fun i hi => ent_at hi
theorem ok_is_fill (T : Txt K mg) : FnOk P w K mg base CX0 3 (T.fa 16) (T.fd 16) ["value"] (spD K fun ds r => ∃ a : Nat → Rat, ds = [fillD a] ∧ r = .bool true) := by
  refine okD (T.F 16 _ rfl) sc_is_fill (fun ds r h => ?_) (fun cdv A0 outer s H vs Q E ds r hr hv hp q => ?_)
  · obtain ⟨_, rfl, _⟩ := h; rfl
  · obtain ⟨a, rfl, rfl⟩ := hp
    obtain ⟨u, rfl, du⟩ := one_of hv
    refine ⟨_, (pss_cons (ps_if (pt_not (pt_val (pe_callB (call_isiQ K) (by rfl) (T.n "isinstance") (by decide +kernel) (pa_cons (pv 0) (pa_cons (pe_bltn (v := .ty "tuple") (by rfl) (T.n "tuple") (by decide +kernel) rfl) pa_nil)))))
       (pss_one (ps_ret pe_bl))
       pss_nil)
      (pss_cons (ps_for PassesOwn.never rfl (pi_tupK K (pv 0)) (pg_name (i := 1) sc_is_fill.nd rfl (Or.inl rfl))
       (pss_cons (ps_if (PW.pt (pw_or (pt_not (pt_val (pe_callB (call_isiQ K) (by rfl) (T.n "isinstance") (by decide +kernel) (pa_cons (pv 1) (pa_cons (pe_bltn (v := .ty "tuple") (by rfl) (T.n "tuple") (by decide +kernel) rfl) pa_nil))))) (pw_or (pt_cmpR (op_neK K hr.units) (pe_callB (call_lenK K) (by rfl) (T.n "len") PySem.boot_len (pa_cons (pv 1) pa_nil)) pe_int (nomark _)) (pw_or1 (pt_not (pt_val (pe_call (ok_is_kind T) (hr.mono (by decide)) (by rfl) (T.g 1 _ rfl) (T.F 1 _ rfl).kp (b_is_kind T) .nil pass0 (pa_cons (pe_ix (ix_seqK K) (pv 1) pe_int (fun _ _ => rfl)) pa_nil))))))))
        (pss_one (ps_ret pe_bl))
        pss_nil)
       (pss_one (ps_if (PW.pt (pw_or (pt_not (pt_val (pe_call (ok_is_fraction T) (hr.mono (by decide)) (by rfl) (T.g 2 _ rfl) (T.F 2 _ rfl).kp (b_is_fraction T) .nil pass0 (pa_cons (pe_ix (ix_seqK K) (pv 1) pe_int (fun _ _ => rfl)) pa_nil)))) (pw_or1 (pt_cmpR op_le (pe_ix (ix_seqK K) (pe_ix (ix_seqK K) (pv 1) pe_int (fun _ _ => rfl)) pe_int (fun _ _ => rfl)) pe_int (nomark _)))))
        (pss_one (ps_ret pe_bl))
        pss_nil))))
      (pss_cons (ps_setLc (i := 2) (own := [("entry", 1)])  rfl sc_is_fill.nd rfl rfl (sw_true rfl rfl rfl (by decide +kernel)) (pi_tupK K (pv 0)) (blkOk_by (N := N_is_fill) (sc := defScope s_is_fill) (by decide +kernel)) (fun _ _ _ _ _ => (pg_name (i := 1) sc_is_fill.nd rfl (Or.inl rfl))) (fun _ _ _ _ _ => pts_nil) (fun _ _ _ _ _ => (pe_ix (ix_seqK K) (pv 1) pe_int (fun _ _ => rfl))))
      (pss_one (ps_ret (pe_callB (cr_allK K rfl) (by rfl) (T.n "all") (by decide +kernel) (pa_cons (pe_lc (own := [("one", 3), ("other", 4)])  rfl sc_is_fill.nd (pi_zipK K (by rfl) (T.n "zip") (pa_cons (pv 2) (pa_cons (pe_slice (sl_listK K) (pv 2) (po_some pe_int) po_none) pa_nil))) (blkOk_by (N := N_is_fill) (sc := defScope s_is_fill) (by decide +kernel)) (fun _ _ _ _ _ => (pg_tupK K (n := 2) rfl (pgs_cons (pg_name (i := 3) sc_is_fill.nd rfl (Or.inl rfl)) (pgs_cons (pg_name (i := 4) sc_is_fill.nd rfl (Or.inl rfl)) pgs_nil)))) (fun _ _ _ _ _ => pts_nil) (fun _ _ _ _ _ => (pe_cmpR op_lt_str (pv 3) (pv 4) (nomark _)))) pa_nil))))))), ?_⟩
    have hl := ents_len (a := a)
    refine s_pass (t_not (b := true) (t_val (K := K) (z_isi (z_var (i := 0) rfl du)))) fun H1 s1 => ?_
    refine s_forHS (K := K) (Hb := H) (fun i σ' H' => ∃ y1 : Option V, σ' = [some u, y1, none, none, none] ∧ Same H H') ((src_fill (p_var (i := 0) rfl du)).h s1) ⟨none, rfl, s1⟩ (fun i σ' H' p => ?_) (fun i σ' H' hi p x dx => ?_) (fun σ' H' p => ?_)
    · obtain ⟨_, _, s'⟩ := p; exact s'
    · obtain ⟨y1, rfl, s'⟩ := p
      have hpos := (mem_ents.mp (getD_in hi)).2
      generalize (ents a).getD i 0 = k at dx hpos
      have zx : ∀ {H2 : Hp}, Same H H2 → Ez K (tVar 1) [some u, some x, none, none, none] H2 (.tuple [.str (kn k), frD (a k)]) := fun s => z_var (i := 1) rfl (L2.Dp.mono s dx)
      have z1 : ∀ {H2 : Hp}, Same H H2 → Ez K (tOp (rIx K) (tVar 1) (tC (.int 1))) [some u, some x, none, none, none] H2 (frD (a k)) := fun s => z_ixT (i := 1) (zx s) z_int rfl
      refine s_pass (t_or (b := false) (c := false) (t_not (b := true) (t_val (K := K) (z_isi (zx s')))) fun _ => t_or (b := false) (c := false) (t_val (K := K) (z_neI (i := 2) (j := 2) (z_lenT (zx s')) z_int)) fun _ => t_not (b := true) (t_val (K := K) (z_call (a_one (z_ixT (i := 0) (zx s') z_int rfl)) ⟨k, rfl, rfl⟩))) fun H2 s2 => ?_
      refine s_pass1 (t_or (b := false) (c := false) (t_not (b := true) (t_val (K := K) (z_call (a_one (z1 (s'.trans s2))) ⟨_, rfl, rfl⟩))) fun _ => t_val (K := K) ?_) fun H3 s3 => ⟨_, rfl, (s'.trans s2).trans s3⟩
      have h := z_cmp (K := K) (p := fun i j => decide (i ≤ j)) (z_num (z1 (s'.trans s2))) (z_int (i := 0))
      rw [decide_eq_false (show ¬ (a k).num ≤ 0 by have := num_pos'.mpr hpos; omega)] at h
      exact h
    · obtain ⟨y1, rfl, s'⟩ := p
      -- kinds
      refine s_set (K := K) (d := .list ((ents a).map fun k => .str (kn k))) (En.ez ?_) fun x2 H2 s2 d2 => ?_
      · have h := n_lcA (K := K) (σ := [some u, y1, none, none, none]) (H := H') (vs := [1]) (j := 1) (te := tOp (rIx K) (tVar 1) (tC (.int 0))) (gd := fun i => .str (kn ((ents a).getD i 0))) (src_fill (p_var (i := 0) rfl (L2.Dp.mono s' du))).g (by omega) (fun i hi x H1 s1 dx => (z_ixT (i := 0) (z_var (i := 1) rfl dx) z_int rfl).en)
        rw [map_tab 0]
        exact h
      refine s_ret (K := K) (d := .bool true) (Ez.en (z_allT (n := (ents a).length - 1) (p := fun _ => true) (En.ez ?_) (fun _ _ => rfl))) fun v H3 s3 d3 => q v H3 ((s'.trans s2).trans s3) (Dn.anti (s'.trans s2) d3)
      refine n_lc2G (it1 := fun i => ((ents a).map fun k => PyData.str (kn k)).getD i .none) (it2 := fun i => (((ents a).map fun k => PyData.str (kn k)).drop 1).getD i .none) (gd := fun _ => .bool true) ?_ (by omega) (fun i hi x y H3 s3 dx dy => ?_)
      · have h := srcG_shift (K := K) (σ := [some u, y1, some x2, none, none]) (i := 2) rfl d2 (flats_map fun _ => rfl)
        rw [List.length_map] at h
        exact h
      · have e1 : ((ents a).map fun k => PyData.str (kn k)).getD i .none = .str (kn ((ents a).getD i 0)) := by
          rw [List.getD_eq_getElem?_getD, List.getElem?_map, List.getElem?_eq_getElem (by omega), List.getD_eq_getElem?_getD, List.getElem?_eq_getElem (by omega)]; rfl
        have e2 : (((ents a).map fun k => PyData.str (kn k)).drop 1).getD i .none = .str (kn ((ents a).getD (i + 1) 0)) := by
          rw [List.getD_eq_getElem?_getD, List.getElem?_drop, Nat.add_comm 1 i, List.getElem?_map, List.getElem?_eq_getElem (by omega), List.getD_eq_getElem?_getD, List.getElem?_eq_getElem (by omega)]; rfl
        rw [e1] at dx
        rw [e2] at dy
        have hi0 : i = 0 := by omega
        subst hi0
        have hlt := List.pairwise_iff_getElem.mp (ents_lt (a := a)) 0 1 (by omega) (by omega) (by omega)
        have h2 := (mem_ents.mp (getD_in (l := ents a) (i := 1) (by omega))).1
        have g0 : (ents a).getD 0 0 = (ents a)[0]'(by omega) := by rw [List.getD_eq_getElem?_getD, List.getElem?_eq_getElem (by omega)]; rfl
        have g1 : (ents a).getD 1 0 = (ents a)[1]'(by omega) := by rw [List.getD_eq_getElem?_getD, List.getElem?_eq_getElem (by omega)]; rfl
        have k0 : (ents a).getD 0 0 = 0 := by omega
        have k1 : (ents a).getD (0 + 1) 0 = 1 := by show (ents a).getD 1 0 = 1; omega
        rw [k0] at dx
        rw [k1] at dy
        have h := z_ltS (K := K) (z_var (σ := [some u, y1, some x2, some x, some y]) (i := 3) rfl dx) (z_var (i := 4) rfl dy)
        rw [kn_lt] at h
        exact h.en
end
end Ck
end

section
set_option Elab.async false
set_option linter.all false
set_option maxRecDepth 100000
set_option maxHeartbeats 4000000
/-! cellars, parts. -/
namespace Ck
open PySem PySem.Spec PyProof.Rows L2
abbrev Wine := Nat → Nat → Rat
def cellD (n : Nat) (C : Wine) : PyData := .tuple (tab n fun i => fillD (C i))
theorem cellD_congr {n : Nat} {C B : Wine} (h : ∀ i k, i < n → k < 2 → C i k = B i k) : cellD n C = cellD n B := by
  unfold cellD; rw [tab_congr fun i hi => fillD_congr fun k hk => h i k hi hk]
theorem flat_cell {n : Nat} {C : Wine} : flatD (cellD n C) = true := flats_tab fun _ => flat_fill
section
variable {P : Program} {w : World} {K : Fg} {mg : Str → Option Value} {base : Heap}
abbrev s_is_cellar : Stmt := topS 32
abbrev N_is_cellar : List Str := ["value", "fill"]
theorem sc_is_cellar : FnScope N_is_cellar ["value"] (defScope s_is_cellar) := ⟨rfl, rfl, rfl, by decide +kernel, rfl, by decide +kernel, by decide +kernel⟩
theorem b_is_cellar (T : Txt K mg) : Binds K (T.fd 17) ["value"] [] := (T.F 17 _ rfl).binds (ps := ["value"]) fun _ _ _ _ _ _ us hl => match us, hl with | [_], _ => rfl

theorem ok_is_cellar (T : Txt K mg) : FnOk P w K mg base CX0 4 (T.fa 17) (T.fd 17) ["value"] (spD K fun ds r => ∃ (n : Nat) (C : Wine), ds = [cellD n C] ∧ 1 ≤ n ∧ n ≤ 5 ∧ r = .bool true) := by
  refine okD (T.F 17 _ rfl) sc_is_cellar (fun ds r h => ?_) (fun cdv A0 outer s H vs Q E ds r hr hv hp q => ?_)
  · obtain ⟨_, _, rfl, _⟩ := h; rfl
  · obtain ⟨n, C, rfl, h1, h5, rfl⟩ := hp
    obtain ⟨u, rfl, du⟩ := one_of hv
    refine ⟨_, (pss_one (ps_ret (pe_and (pe_callB (call_isiQ K) (by rfl) (T.n "isinstance") (by decide +kernel) (pa_cons (pv 0) (pa_cons (pe_bltn (v := .ty "tuple") (by rfl) (T.n "tuple") (by decide +kernel) rfl) pa_nil))) (pe_and (pe_chain op_le op_le pe_int (pe_callB (call_lenK K) (by rfl) (T.n "len") PySem.boot_len (pa_cons (pv 0) pa_nil)) pe_int) (pe_one (pe_callB (cr_allK K rfl) (by rfl) (T.n "all") (by decide +kernel) (pa_cons (pe_lc (own := [("fill", 1)])  rfl sc_is_cellar.nd (pi_tupK K (pv 0)) (blkOk_by (N := N_is_cellar) (sc := defScope s_is_cellar) (by decide +kernel)) (fun _ _ _ _ _ => (pg_name (i := 1) sc_is_cellar.nd rfl (Or.inl rfl))) (fun _ _ _ _ _ => pts_nil) (fun _ _ _ _ _ => (pe_call (ok_is_fill T) (hr.mono (by decide)) (by rfl) (T.g 16 _ rfl) (T.F 16 _ rfl).kp (b_is_fill T) .nil pass0 (pa_cons (pv 1) pa_nil)))) pa_nil))))))), ?_⟩
    refine s_ret (K := K) (d := .bool true) (Ez.en ?_) q
    refine z_andV (b := true) (c := true) (z_isi (z_var (i := 0) rfl du)) fun _ => ?_
    refine z_andV (b := true) (c := true) ?_ fun _ => ?_
    · have hl := z_lenT (K := K) (z_var (σ := start N_is_cellar [u]) (H := H) (i := 0) rfl du)
      rw [tab_len] at hl
      have h := z_chain (K := K) (p := fun i j => decide (i ≤ j)) (p' := fun i j => decide (i ≤ j)) (z_int (i := 1)) hl (z_int (i := 8))
      rw [decide_eq_true (show (1 : Int) ≤ n by omega), decide_eq_true (show (n : Int) ≤ 8 by omega)] at h
      exact h
    · refine z_allT (n := n) (p := fun _ => true) (En.ez ?_) fun _ _ => rfl
      have h := n_lcA (K := K) (σ := start N_is_cellar [u]) (H := H) (vs := [1]) (j := 1) (te := tCall (spD K fun ds r => ∃ a : Nat → Rat, ds = [fillD a] ∧ r = .bool true) [] E0 (tCons (tVar 1) tNil)) (gd := fun i => .bool true) (src_tup (p_var (i := 0) rfl du)).g (by rw [tab_len]; omega) (fun i hi x H1 s1 dx => by
        rw [tab_len] at hi
        rw [tab_getD hi] at dx
        exact n_call (a_one (z_var (i := 1) rfl dx)) ⟨C i, rfl, rfl⟩)
      rw [tab_len] at h
      exact h
abbrev s_need_fill : Stmt := topS 33
abbrev N_need_fill : List Str := ["fill"]
theorem sc_need_fill : FnScope N_need_fill ["fill"] (defScope s_need_fill) := ⟨rfl, rfl, rfl, by decide +kernel, rfl, by decide +kernel, by decide +kernel⟩
theorem b_need_fill (T : Txt K mg) : Binds K (T.fd 18) ["fill"] [] := (T.F 18 _ rfl).binds (ps := ["fill"]) fun _ _ _ _ _ _ us hl => match us, hl with | [_], _ => rfl

theorem ok_need_fill (T : Txt K mg) : FnOk P w K mg base CX0 4 (T.fa 18) (T.fd 18) ["fill"] (spD K fun ds r => ∃ a : Nat → Rat, ds = [fillD a] ∧ r = .none) := by
  refine okD (T.F 18 _ rfl) sc_need_fill (fun ds r h => ?_) (fun cdv A0 outer s H vs Q E ds r hr hv hp q => ?_)
  · obtain ⟨_, rfl, _⟩ := h; rfl
  · obtain ⟨a, rfl, rfl⟩ := hp
    obtain ⟨u, rfl, du⟩ := one_of hv
    refine ⟨_, (pss_one (ps_if (pt_not (pt_val (pe_call (ok_is_fill T) (hr.mono (by decide)) (by rfl) (T.g 16 _ rfl) (T.F 16 _ rfl).kp (b_is_fill T) .nil pass0 (pa_cons (pv 0) pa_nil))))
       (pss_one ps_never)
       pss_nil)), ?_⟩
    exact s_pass1 (t_not (b := true) (t_val (z_call (a_one (z_var (i := 0) rfl du)) ⟨a, rfl, rfl⟩))) fun H1 s1 => q _ _ s1 .non
abbrev s_need_cellar : Stmt := topS 34
abbrev N_need_cellar : List Str := ["cellar"]
theorem sc_need_cellar : FnScope N_need_cellar ["cellar"] (defScope s_need_cellar) := ⟨rfl, rfl, rfl, by decide +kernel, rfl, by decide +kernel, by decide +kernel⟩
theorem b_need_cellar (T : Txt K mg) : Binds K (T.fd 19) ["cellar"] [] := (T.F 19 _ rfl).binds (ps := ["cellar"]) fun _ _ _ _ _ _ us hl => match us, hl with | [_], _ => rfl

theorem ok_need_cellar (T : Txt K mg) : FnOk P w K mg base CX0 5 (T.fa 19) (T.fd 19) ["cellar"] (spD K fun ds r => ∃ (n : Nat) (C : Wine), ds = [cellD n C] ∧ 1 ≤ n ∧ n ≤ 5 ∧ r = .none) := by
  refine okD (T.F 19 _ rfl) sc_need_cellar (fun ds r h => ?_) (fun cdv A0 outer s H vs Q E ds r hr hv hp q => ?_)
  · obtain ⟨_, _, rfl, _⟩ := h; rfl
  · obtain ⟨n, C, rfl, h1, h5, rfl⟩ := hp
    obtain ⟨u, rfl, du⟩ := one_of hv
    refine ⟨_, (pss_one (ps_if (pt_not (pt_val (pe_call (ok_is_cellar T) (hr.mono (by decide)) (by rfl) (T.g 17 _ rfl) (T.F 17 _ rfl).kp (b_is_cellar T) .nil pass0 (pa_cons (pv 0) pa_nil))))
       (pss_one ps_never)
       pss_nil)), ?_⟩
    exact s_pass1 (t_not (b := true) (t_val (z_call (a_one (z_var (i := 0) rfl du)) ⟨n, C, rfl, h1, h5, rfl⟩))) fun H1 s1 => q _ _ s1 .non
abbrev s_size : Stmt := topS 35
abbrev N_size : List Str := ["fill", "kind", "much"]
theorem sc_size : FnScope N_size ["fill"] (defScope s_size) := ⟨rfl, rfl, rfl, by decide +kernel, rfl, by decide +kernel, by decide +kernel⟩
theorem b_size (T : Txt K mg) : Binds K (T.fd 20) ["fill"] [] := (T.F 20 _ rfl).binds (ps := ["fill"]) fun _ _ _ _ _ _ us hl => match us, hl with | [_], _ => rfl

theorem sm_ents {a : Nat → Rat} (h : ∀ k, k < 2 → 0 ≤ a k) : sm (ents a) a = sm (rg 2) a := by
  unfold ents
  refine sm_filter fun k hk q => ?_
  have h0 := h k (List.mem_range.mp hk)
  have h1 : ¬ 0 < a k := of_decide_eq_false q
  rcases Rat.le_iff_lt_or_eq.mp h0 with c | c
  · exact absurd c h1
  · exact c.symm
def PSiz : List PyData → PyData → Prop := fun ds r => ∃ (a : Nat → Rat) (D : Nat), ds = [fillD a] ∧ 0 < D ∧ D < 2 ^ 3900 ∧ (∀ k, k < 2 → 0 ≤ a k ∧ Fb D 40 (a k)) ∧ r = frD (sm (rg 2) a)
theorem ok_size (T : Txt K mg) : FnOk P w K mg base CX0 5 (T.fa 20) (T.fd 20) ["fill"] (spD K PSiz) := by
  refine okD (T.F 20 _ rfl) sc_size (fun ds r h => ?_) (fun cdv A0 outer s H vs Q E ds r hr hv hp q => ?_)
  · obtain ⟨_, _, rfl, _⟩ := h; rfl
  · obtain ⟨a, D, rfl, hD, hDs, ha, rfl⟩ := hp
    obtain ⟨u, rfl, du⟩ := one_of hv
    refine ⟨_, (pss_cons (ps_expr (pe_call (ok_need_fill T) (hr.mono (by decide)) (by rfl) (T.g 18 _ rfl) (T.F 18 _ rfl).kp (b_need_fill T) .nil pass0 (pa_cons (pv 0) pa_nil)))
      (pss_one (ps_ret (pe_call (ok_sum_of T) (hr.mono (by decide)) (by rfl) (T.g 11 _ rfl) (T.F 11 _ rfl).kp (b_sum_of T) .nil pass0 (pa_cons (pe_lc (own := [("kind", 1), ("much", 2)])  rfl sc_size.nd (pi_tupK K (pv 0)) (blkOk_by (N := N_size) (sc := defScope s_size) (by decide +kernel)) (fun _ _ _ _ _ => (pg_tupK K (n := 2) rfl (pgs_cons (pg_name (i := 1) sc_size.nd rfl (Or.inl rfl)) (pgs_cons (pg_name (i := 2) sc_size.nd rfl (Or.inl rfl)) pgs_nil)))) (fun _ _ _ _ _ => pts_nil) (fun _ _ _ _ _ => (pv 2))) pa_nil))))), ?_⟩
    have hl := ents_len (a := a)
    refine s_expr (z_call (a_one (z_var (i := 0) rfl du)) ⟨a, rfl, rfl⟩) fun H1 s1 => ?_
    have hm : ∀ i, i < (ents a).length → (ents a).getD i 0 < 2 := fun i hi => (mem_ents.mp (getD_in hi)).1
    refine s_ret (K := K) (d := frD (sm (rg 2) a)) (n_call (ds := [.list (tab (ents a).length fun i => frD (a ((ents a).getD i 0)))]) (a_one (En.ez ?_)) ⟨(ents a).length, fun i => a ((ents a).getD i 0), D, 40, rfl, by omega, hD, hDs, fun i hi => (ha _ (hm i hi)).2, by omega, ?_⟩) fun v H2 s2 d2 => q v H2 (s1.trans s2) (Dn.anti s1 d2)
    · have h := n_lcP (K := K) (σ := start N_size [u]) (H := H1) (vs := [1, 2]) (j := 1) (k := 2) (tt := tYes) (te := tVar 2) (p := fun _ => true) (gd := fun i => frD (a ((ents a).getD i 0))) (src_fill (p_var (i := 0) rfl (L2.Dp.mono s1 du))).g (by omega) (fun i hi x y H2 s2 dx dy => t_yes) (fun i hi _ x y H2 s2 dx dy => (z_var (i := 2) rfl dy).en)
      rw [pick_all] at h
      exact h
    · rw [sm_idx (l := ents a) (f := a), sm_ents fun k hk => (ha k hk).1]
abbrev s_part : Stmt := topS 37
abbrev N_part : List Str := ["fill", "share", "kind", "much"]
theorem sc_part : FnScope N_part ["fill", "share"] (defScope s_part) := ⟨rfl, rfl, rfl, by decide +kernel, rfl, by decide +kernel, by decide +kernel⟩
theorem b_part (T : Txt K mg) : Binds K (T.fd 22) ["fill", "share"] [] := (T.F 22 _ rfl).binds (ps := ["fill", "share"]) fun _ _ _ _ _ _ us hl => match us, hl with | [_, _], _ => rfl

def PPart : List PyData → PyData → Prop := fun ds r => ∃ (a : Nat → Rat) (s : Rat) (ka kb : Nat), ds = [fillD a, frD s] ∧ 0 ≤ s ∧ s ≤ 1 ∧ (∀ k, k < 2 → Bd ka (a k)) ∧ Bd kb s ∧ ka + kb ≤ 8000 ∧ r = fillD fun k => a k * s
theorem ok_part (T : Txt K mg) : FnOk P w K mg base CX0 5 (T.fa 22) (T.fd 22) ["fill", "share"] (spD K PPart) := by
  refine okD (T.F 22 _ rfl) sc_part (fun ds r h => ?_) (fun cdv A0 outer s H vs Q E ds r hr hv hp q => ?_)
  · obtain ⟨_, _, _, _, rfl, _⟩ := h; rfl
  · obtain ⟨a, sh, ka, kb, rfl, h0, h1, ha, hb, hab, rfl⟩ := hp
    obtain ⟨u, v, rfl, du, dv⟩ := two_of hv
    refine ⟨_, (pss_cons (ps_expr (pe_call (ok_need_fill T) (hr.mono (by decide)) (by rfl) (T.g 18 _ rfl) (T.F 18 _ rfl).kp (b_need_fill T) .nil pass0 (pa_cons (pv 0) pa_nil)))
      (pss_cons (ps_expr (pe_call (ok_need_share T) (hr.mono (by decide)) (by rfl) (T.g 6 _ rfl) (T.F 6 _ rfl).kp (b_need_share T) .nil pass0 (pa_cons (pv 1) pa_nil)))
      (pss_cons (ps_if (pt_cmpR (op_eqK K hr.units) (pe_ix (ix_seqK K) (pv 1) pe_int (fun _ _ => rfl)) pe_int (nomark _))
       (pss_one (ps_ret (pe_tup pa_nil)))
       pss_nil)
      (pss_one (ps_ret (pe_callTy (call_tupleK K) (by rfl) (T.n "tuple") (by decide +kernel) (pa_cons (pe_lc (own := [("kind", 2), ("much", 3)])  rfl sc_part.nd (pi_tupK K (pv 0)) (blkOk_by (N := N_part) (sc := defScope s_part) (by decide +kernel)) (fun _ _ _ _ _ => (pg_tupK K (n := 2) rfl (pgs_cons (pg_name (i := 2) sc_part.nd rfl (Or.inl rfl)) (pgs_cons (pg_name (i := 3) sc_part.nd rfl (Or.inl rfl)) pgs_nil)))) (fun _ _ _ _ _ => pts_nil) (fun _ _ _ _ _ => (pe_tup (pa_cons (pv 2) (pa_cons (pe_call (ok_times T) (hr.mono (by decide)) (by rfl) (T.g 10 _ rfl) (T.F 10 _ rfl).kp (b_times T) .nil pass0 (pa_cons (pv 3) (pa_cons (pv 1) pa_nil))) pa_nil))))) pa_nil))))))), ?_⟩
    have hl := ents_len (a := a)
    refine s_expr (z_call (a_one (z_var (i := 0) rfl du)) ⟨a, rfl, rfl⟩) fun H1 s1 => ?_
    refine s_expr (z_call (a_one (z_var (i := 1) rfl (L2.Dp.mono s1 dv))) ⟨sh, rfl, h0, h1, rfl⟩) fun H2 s2 => ?_
    have s12 := s1.trans s2
    have dv2 := L2.Dp.mono s12 dv
    have du2 := L2.Dp.mono s12 du
    refine s_if (b := decide (sh.num = 0)) (t_val (K := K) (z_eqI (z_num (z_var (i := 1) rfl dv2)) z_int)) (fun hb0 H3 s3 => ?_) (fun hb0 H3 s3 => ?_)
    · have hz : sh = 0 := Rat.num_eq_zero.mp (of_decide_eq_true hb0)
      have e : fillD (fun k => a k * sh) = .tuple [] := by
        have e2 : ents (fun k => a k * sh) = [] := by
          unfold ents
          refine List.filter_eq_nil_iff.mpr fun k _ => ?_
          rw [hz]
          intro h
          have h : 0 < a k * 0 := of_decide_eq_true h
          rw [Rat.mul_zero] at h
          exact absurd h (by decide)
        unfold fillD
        rw [e2]; rfl
      rw [e] at q
      exact s_ret (K := K) (d := .tuple []) (n_tup an_nil) fun v H4 s4 d4 => q v H4 ((s12.trans s3).trans s4) (Dn.anti (s12.trans s3) d4)
    · have hne : sh ≠ 0 := fun e => of_decide_eq_false hb0 (Rat.num_eq_zero.mpr e)
      have hpos : 0 < sh := by
        rcases Rat.le_iff_lt_or_eq.mp h0 with c | c
        · exact c
        · exact absurd c.symm hne
      have hents : ents (fun k => a k * sh) = ents a := ents_congr fun k hk => by
        constructor
        · intro h
          by_cases c : 0 < a k
          · exact c
          · have := Rat.mul_le_mul_of_nonneg_right (Rat.not_lt.mp c) h0
            rw [Rat.zero_mul] at this
            exact absurd h (Rat.not_lt.mpr this)
        · intro h; exact Rat.mul_pos h hpos
      have e : fillD (fun k => a k * sh) = .tuple (tab (ents a).length fun i => .tuple [.str (kn ((ents a).getD i 0)), frD (a ((ents a).getD i 0) * sh)]) := by
        unfold fillD
        rw [hents, map_tab 0]; rfl
      rw [e] at q
      unfold tNext; dsimp only
      refine s_ret (K := K) (d := .tuple (tab (ents a).length fun i => .tuple [.str (kn ((ents a).getD i 0)), frD (a ((ents a).getD i 0) * sh)])) (n_tuple ?_) fun v H4 s4 d4 => q v H4 ((s12.trans s3).trans s4) (Dn.anti (s12.trans s3) d4)
      have dv3 := L2.Dp.mono s3 dv2
      have h := n_lcP (K := K) (σ := start N_part [u, v]) (H := H3) (vs := [2, 3]) (j := 2) (k := 3) (tt := tYes) (te := tTup (tCons (tVar 2) (tCons (tCall (spD K (P2 fun p q => p * q)) [] E0 (tCons (tVar 3) (tCons (tVar 1) tNil))) tNil))) (p := fun _ => true) (gd := fun i => .tuple [.str (kn ((ents a).getD i 0)), frD (a ((ents a).getD i 0) * sh)])
        (src_fill (p_var (i := 0) rfl (L2.Dp.mono s3 du2))).g (by omega) (fun i hi x y H2 s2 dx dy => t_yes) (fun i hi _ x y H5 s5 dx dy => n_tup (an_cons (Ez.en (z_var (i := 2) rfl dx)) (an_cons (n_call (a_cons (z_var (i := 3) rfl dy) (a_one (z_var (i := 1) rfl (L2.Dp.mono s5 dv3)))) ⟨_, _, ka, kb, rfl, ha _ (mem_ents.mp (getD_in hi)).1, hb, hab, rfl⟩) an_nil)))
      rw [pick_all] at h
      exact h
end
end Ck
end

section
set_option Elab.async false
set_option linter.all false
set_option maxRecDepth 100000
set_option maxHeartbeats 4000000
/-! together. -/
namespace Ck
open PySem PySem.Spec PyProof.Rows L2
theorem kn_inj {i j : Nat} (hi : i < 2) (hj : j < 2) (e : kn i = kn j) : i = j := by
  have h : kn 0 ≠ kn 1 := by decide +kernel
  have a : i = 0 ∨ i = 1 := by omega
  have b : j = 0 ∨ j = 1 := by omega
  rcases a with rfl | rfl <;> rcases b with rfl | rfl
  · rfl
  · exact absurd e h
  · exact absurd e.symm h
  · rfl
abbrev ky (k : Nat) : Key := Sum.inr (kn k)
theorem ky_inj {i j : Nat} (hi : i < 2) (hj : j < 2) (e : ky i = ky j) : i = j := kn_inj hi hj (Sum.inr.inj e)
section
variable {P : Program} {w : World} {K : Fg} {mg : Str → Option Value} {base : Heap}
section
variable {σ : L2.St} {H H' Hb : Hp} {ta tb te ty tx tv : TE} {D : Ends} {rest : TS} {d : Addr} {a b : Nat → Rat}
/-- a dict of amounts -/
structure DV (K : Fg) (H : Hp) (d : Addr) (a : Nat → Rat) : Prop where
  nn : ∀ k, k < 2 → 0 ≤ a k
  ex : ∃ (kvs : List (Key × V)) (ks : List Nat), H d = some (.dK kvs) ∧ kvs.map (·.1) = ks.map ky ∧ ks.Nodup ∧ (∀ k, k ∈ ks ↔ k < 2 ∧ 0 < a k) ∧ ∀ k ∈ ks, ∃ v, valV kvs (ky k) = some v ∧ Dp K H v (frD (a k))
theorem DV.congr (h : DV K H d a) (e : ∀ k, k < 2 → a k = b k) : DV K H d b := by
  obtain ⟨nn, kvs, ks, h1, h2, h3, h4, h5⟩ := h
  refine ⟨fun k hk => by rw [← e k hk]; exact nn k hk, kvs, ks, h1, h2, h3, fun k => ?_, fun k hk => ?_⟩
  · rw [h4]
    exact ⟨fun q => ⟨q.1, by rw [← e k q.1]; exact q.2⟩, fun q => ⟨q.1, by rw [e k q.1]; exact q.2⟩⟩
  · rw [← e k ((h4 k).mp hk).1]; exact h5 k hk
theorem DV.same (h : DV K H d a) (s : Same H H') : DV K H' d a := by
  obtain ⟨nn, kvs, ks, h1, h2, h3, h4, h5⟩ := h
  exact ⟨nn, kvs, ks, s _ _ h1, h2, h3, h4, fun k hk => let ⟨v, a, b⟩ := h5 k hk; ⟨v, a, L2.Dp.mono s b⟩⟩
theorem val_none {kvs : List (Key × V)} {ks : List Nat} {k : Nat} (h : kvs.map (·.1) = ks.map ky) (hk : ∀ j ∈ ks, ky j ≠ ky k) : valV kvs (ky k) = none := by
  unfold valV
  rw [List.find?_eq_none.mpr fun kv hkv => ?_]
  · rfl
  · have : kv.1 ∈ kvs.map (·.1) := List.mem_map_of_mem hkv
    rw [h] at this
    obtain ⟨j, hj, e⟩ := List.mem_map.mp this
    intro q
    exact hk j hj (by rw [e]; exact of_decide_eq_true q)
theorem put_keys {kvs : List (Key × V)} {k : Key} {v : V} : (putK kvs k v).map (·.1) = if (valV kvs k).isSome = true then kvs.map (·.1) else kvs.map (·.1) ++ [k] := by
  unfold putK
  rw [valV_any]
  by_cases h : (valV kvs k).isSome = true
  · rw [if_pos h, if_pos h, List.map_map]
    refine List.map_congr_left fun kv _ => ?_
    show (if kv.1 = k then (kv.1, v) else kv).1 = kv.1
    split <;> rfl
  · rw [if_neg h, if_neg h, List.map_append]; rfl
theorem sqT_dk {p c : Addr} {xs : List V} {kvs : List (Key × V)} {o : HO} (hp : H p = some (.dK kvs)) (h : SqT K H c xs) : SqT K (upd H p o) c xs := by
  rcases h with (h | ⟨o', h⟩) | h
  · exact .inl (.inl (by rw [upd_ne (ne_of h hp (by intro z; cases z))]; exact h))
  · exact .inl (.inr ⟨o', by rw [upd_ne (ne_of h hp (by intro z; cases z))]; exact h⟩)
  · exact .inr h
theorem flat_dk {p : Addr} {kvs : List (Key × V)} {o : HO} {v : V} {x : PyData} (f : flatD x = true) (hp : H p = some (.dK kvs)) (h : Dp K H v x) : Dp K (upd H p o) v x := (dpN (H0 := H) (fun _ _ a => sqT_dk hp a) x v f h).dp
theorem DV.put (h : DV K H d a) {k : Nat} (hk : k < 2) {q : Rat} (hq : 0 < q) {v : V} (dv : Dp K H v (frD q)) : ∃ kvs, H d = some (.dK kvs) ∧ kvs.length ≤ 2 ∧ DV K (upd H d (.dK (putK kvs (ky k) v))) d fun j => if j = k then q else a j := by
  obtain ⟨nn, kvs, ks, h1, h2, h3, h4, h5⟩ := h
  have hks : ∀ j ∈ ks, j < 2 := fun j hj => ((h4 j).mp hj).1
  have hlen : kvs.length = ks.length := by
    have := congrArg List.length h2
    rw [List.length_map, List.length_map] at this; exact this
  have fin : ∀ (ks' : List Nat), (putK kvs (ky k) v).map (·.1) = ks'.map ky → ks'.Nodup → (∀ j, j ∈ ks' ↔ j = k ∨ j ∈ ks) → DV K (upd H d (.dK (putK kvs (ky k) v))) d fun j => if j = k then q else a j := fun ks' e1 e2 e3 => by
    refine ⟨fun j hj => ?_, _, ks', upd_same, e1, e2, fun j => ?_, fun j hj => ?_⟩
    · show 0 ≤ (if j = k then q else a j)
      split
      · exact Rat.le_of_lt hq
      · exact nn j hj
    · rw [e3]
      show _ ↔ j < 2 ∧ 0 < (if j = k then q else a j)
      by_cases e : j = k
      · rw [if_pos e]; exact ⟨fun _ => ⟨by omega, hq⟩, fun _ => .inl e⟩
      · rw [if_neg e, ← h4]; exact ⟨fun z => z.resolve_left e, .inr⟩
    · show ∃ v', valV _ (ky j) = some v' ∧ Dp K _ v' (frD (if j = k then q else a j))
      rw [valV_put]
      rcases (e3 j).mp hj with e | e
      · subst e
        rw [if_pos rfl, if_pos rfl]
        exact ⟨v, rfl, flat_dk rfl h1 dv⟩
      · by_cases c : j = k
        · subst c
          rw [if_pos rfl, if_pos rfl]
          exact ⟨v, rfl, flat_dk rfl h1 dv⟩
        · rw [if_neg fun z => c (ky_inj (hks j e) hk z), if_neg c]
          obtain ⟨v', a1, a2⟩ := h5 j e
          exact ⟨v', a1, flat_dk rfl h1 a2⟩
  refine ⟨kvs, h1, by rw [hlen]; exact nodup_len h3 hks, ?_⟩
  by_cases hm : k ∈ ks
  · obtain ⟨v', e, _⟩ := h5 k hm
    refine fin ks ?_ h3 fun j => ⟨.inr, fun z => z.elim (fun e => by rw [e]; exact hm) id⟩
    rw [put_keys, e]; exact h2
  · have e := val_none (k := k) h2 fun j hj z => hm (by rw [← ky_inj (hks j hj) hk z]; exact hj)
    refine fin (ks ++ [k]) ?_ ?_ fun j => ?_
    · rw [put_keys, e]
      show (if (none : Option V).isSome = true then _ else _) = _
      rw [if_neg (by decide), h2, List.map_append]; rfl
    · exact List.nodup_append.mpr ⟨h3, by simp, fun x hx y hy z => by simp at hy; subst hy; subst z; exact hm hx⟩
    · rw [List.mem_append]; simp; exact ⟨fun z => z.elim .inr .inl, fun z => z.elim .inr .inl⟩
theorem z_dget2 {m k : Nat} (hm : σ[m]? = some (some (.ref d))) (h : DV K H d a) (hk : k < 2) (hy : Ez K ty σ H (.str (kn k))) (hx : Ez K tx σ H (frD 0)) : Ez K (tDGet2 (tVar m) ty tx) σ H (frD (a k)) := fun H1 s Q q => by
  obtain ⟨nn, kvs, ks, h1, h2, h3, h4, h5⟩ := h
  refine ⟨.ref d, hm, d, rfl, .inl ⟨kvs, .inl (s _ _ h1)⟩, hy H1 s _ fun y H2 s2 dy => hx H2 (s.trans s2) _ fun z H3 s3 dz => ?_⟩
  cases dy
  have e3 := s3 _ _ (s2 _ _ (s _ _ h1))
  refine ⟨_, DGet.k (k := ky k) e3, ?_⟩
  by_cases hmem : k ∈ ks
  · obtain ⟨v, a1, a2⟩ := h5 k hmem
    rw [a1]
    exact q _ _ (s2.trans s3) (L2.Dp.mono ((s.trans s2).trans s3) a2)
  · have e := val_none (k := k) h2 fun j hj z => hmem (by rw [← ky_inj ((h4 j).mp hj).1 hk z]; exact hj)
    rw [e]
    have e0 : a k = 0 := by
      rcases Rat.le_iff_lt_or_eq.mp (nn k hk) with c | c
      · exact absurd ((h4 k).mpr ⟨hk, c⟩) hmem
      · exact c.symm
    rw [e0] at q
    exact q _ _ (s2.trans s3) dz
theorem z_dgetV {m k : Nat} (hm : σ[m]? = some (some (.ref d))) (h : DV K H d a) (hk : k ∈ ents a) (hy : Ez K ty σ H (.str (kn k))) : Ez K (tDGet (tVar m) ty) σ H (frD (a k)) := fun H1 s Q q => by
  obtain ⟨nn, kvs, ks, h1, h2, h3, h4, h5⟩ := h
  refine ⟨.ref d, hm, hy H1 s _ fun y H2 s2 dy => ?_⟩
  cases dy
  obtain ⟨v, a1, a2⟩ := h5 k ((h4 k).mpr (mem_ents.mp hk))
  have g : DGet H2 d (.str (kn k)) (some v) := a1 ▸ DGet.k (k := ky k) (s2 _ _ (s _ _ h1))
  exact ⟨d, v, rfl, g, q _ _ s2 (L2.Dp.mono (s.trans s2) a2)⟩
theorem s_dputV {m k : Nat} {q : Rat} (hm : σ[m]? = some (some (.ref d))) (h : DV K H d a) (hk : k < 2) (hq : 0 < q) (hv : Ez K tv σ H (frD q)) (hy : ∀ H', Same H H' → Ez K ty σ H' (.str (kn k))) (hb : Hb d = none) (sb : Same Hb H)
    (kk : ∀ H', Same Hb H' → DV K H' d (fun j => if j = k then q else a j) → D.nx σ H') : sDPut (tVar m) ty tv D σ H :=
  hv H (Same.refl _) _ fun v H2 s2 dv => ⟨.ref d, hm, hy H2 s2 H2 (Same.refl _) _ fun y H3 s3 dy => by
    cases dy
    obtain ⟨kvs, e, hl, hD⟩ := (h.same (s2.trans s3)).put hk hq (L2.Dp.mono s3 dv)
    refine ⟨d, _, rfl, DPut.k (k := ky k) e (Nat.lt_of_le_of_lt hl (by decide)), kk _ (fun b o z => ?_) hD⟩
    rw [upd_ne (ne_of_none z hb)]
    exact s3 _ _ (s2 _ _ (sb _ _ z))⟩
/-- sorted(totals) -/
theorem perm_two {x y : Str} {l : List Str} (h : l.Perm [x, y]) : l = [x, y] ∨ l = [y, x] := by
  have hl := h.length_eq
  match l, hl with
  | [p, q], _ =>
    have hp : p ∈ [x, y] := h.mem_iff.mp (by simp)
    rcases List.mem_cons.mp hp with e | e
    · subst e
      have := (List.perm_cons _).mp h
      have := List.perm_singleton.mp this
      cases this; exact .inl rfl
    · simp at e
      subst e
      have h2 : [p, q].Perm [p, x] := h.trans (List.Perm.swap _ _ _)
      have := (List.perm_cons _).mp h2
      have := List.perm_singleton.mp this
      cases this; exact .inr rfl
theorem sorted_kn {ks : List Nat} {ys : List Str} (h3 : ks.Nodup) (h4 : ∀ k, k ∈ ks ↔ k < 2 ∧ 0 < a k) (hp : ys.Perm (ks.map kn)) (hs : sortedS ys = true) : ys = (ents a).map kn := by
  have hp2 : ks.Perm (ents a) := (List.perm_ext_iff_of_nodup h3 ents_nodup).mpr fun k => by rw [h4, mem_ents]
  have hp3 : ys.Perm ((ents a).map kn) := hp.trans (hp2.map kn)
  have hcase : ents a = [] ∨ ents a = [0] ∨ ents a = [1] ∨ ents a = [0, 1] := by
    have e : rg 2 = [0, 1] := rfl
    unfold ents
    rw [e]
    by_cases h0 : 0 < a 0 <;> by_cases h1 : 0 < a 1 <;> simp [List.filter_cons, h0, h1]
  rcases hcase with e | e | e | e
  · rw [e] at hp3 ⊢; exact hp3.eq_nil
  · rw [e] at hp3 ⊢; exact List.perm_singleton.mp hp3
  · rw [e] at hp3 ⊢; exact List.perm_singleton.mp hp3
  · rw [e] at hp3 ⊢
    rcases perm_two (x := kn 0) (y := kn 1) hp3 with q | q
    · exact q
    · rw [q] at hs
      have : sortedS [kn 1, kn 0] = false := by decide +kernel
      rw [this] at hs; cases hs
end
abbrev s_together : Stmt := topS 36
abbrev N_together : List Str := ["fills", "fill", "totals", "kind", "much"]
theorem sc_together : FnScope N_together ["fills"] (defScope s_together) := ⟨rfl, rfl, rfl, by decide +kernel, rfl, by decide +kernel, by decide +kernel⟩
theorem b_together (T : Txt K mg) : Binds K (T.fd 21) ["fills"] [] := (T.F 21 _ rfl).binds (ps := ["fills"]) fun _ _ _ _ _ _ us hl => match us, hl with | [_], _ => rfl

def PTog : List PyData → PyData → Prop := fun ds r => ∃ (n : Nat) (F : Nat → Nat → Rat) (D : Nat), ds = [.list (tab n fun j => fillD (F j))] ∧ n ≤ 5 ∧ 0 < D ∧ D < 2 ^ 3000 ∧ (∀ j k, j < n → k < 2 → 0 ≤ F j k ∧ Fb D 40 (F j k)) ∧ r = fillD fun k => sm (rg n) fun j => F j k
/-- the totals behind j fills and t entries of the next -/
def totA (F : Nat → Nat → Rat) (j t : Nat) : Nat → Rat := fun k => sm (rg j) (fun i => F i k) + if k ∈ (ents (F j)).take t then F j k else 0
theorem ok_together (T : Txt K mg) : FnOk P w K mg base CX0 5 (T.fa 21) (T.fd 21) ["fills"] (spD K PTog) := by
  refine okD (T.F 21 _ rfl) sc_together (fun ds r h => ?_) (fun cdv A0 outer s H vs Q E ds r hr hv hp q => ?_)
  · obtain ⟨_, _, _, rfl, _⟩ := h; rfl
  · obtain ⟨n, F, D, rfl, h5, hD, hDs, hF, rfl⟩ := hp
    obtain ⟨u, rfl, du⟩ := one_of hv
    refine ⟨_, (pss_cons (ps_for PassesOwn.never rfl (pi_listK K (pv 0)) (pg_name (i := 1) sc_together.nd rfl (Or.inl rfl))
       (pss_one (ps_expr (pe_call (ok_need_fill T) (hr.mono (by decide)) (by rfl) (T.g 18 _ rfl) (T.F 18 _ rfl).kp (b_need_fill T) .nil pass0 (pa_cons (pv 1) pa_nil)))))
      (pss_cons (ps_set (i := 2) sc_together.nd rfl (Or.inr rfl) pe_dnewK)
      (pss_cons (ps_for PassesOwn.never rfl (pi_listK K (pv 0)) (pg_name (i := 1) sc_together.nd rfl (Or.inl rfl))
       (pss_one (ps_for PassesOwn.never rfl (pi_tupK K (pv 1)) (pg_tupK K (n := 2) rfl (pgs_cons (pg_name (i := 3) sc_together.nd rfl (Or.inl rfl)) (pgs_cons (pg_name (i := 4) sc_together.nd rfl (Or.inl rfl)) pgs_nil)))
        (pss_one (ps_dput (hu_of hr) (pv 2) (pv 3) (pe_call (ok_plus T) (hr.mono (by decide)) (by rfl) (T.g 8 _ rfl) (T.F 8 _ rfl).kp (b_plus T) .nil pass0 (pa_cons (pe_dget2 (hu_of hr) (pv 2) (pv 3) (pe_tup (pa_cons pe_int (pa_cons pe_int pa_nil))) ⟨by rfl, by rfl, by rfl, by rfl⟩) (pa_cons (pv 4) pa_nil))) rfl)))))
      (pss_one (ps_ret (pe_callTy (call_tupleK K) (by rfl) (T.n "tuple") (by decide +kernel) (pa_cons (pe_lc (own := [("kind", 3)])  rfl sc_together.nd (pi_listK K (pe_callB (call_sortedD rfl) (by rfl) (T.n "sorted") (by decide +kernel) (pa_cons (pv 2) pa_nil))) (blkOk_by (N := N_together) (sc := defScope s_together) (by decide +kernel)) (fun _ _ _ _ _ => (pg_name (i := 3) sc_together.nd rfl (Or.inl rfl))) (fun _ _ _ _ _ => pts_nil) (fun _ _ _ _ _ => (pe_tup (pa_cons (pv 3) (pa_cons (pe_dget (hu_of hr) (pv 2) (pv 3) (fun _ _ => rfl)) pa_nil))))) pa_nil))))))), ?_⟩
    refine s_forHS (K := K) (Hb := H) (fun i σ' H' => ∃ y1 : Option V, σ' = [some u, y1, none, none, none] ∧ Same H H') ((src_list (p_var (i := 0) rfl du)).h (Same.refl _)) ⟨none, rfl, Same.refl _⟩ (fun i σ' H' p => ?_) (fun i σ' H' hi p x dx => ?_) (fun σ' H' p => ?_)
    · obtain ⟨_, _, s'⟩ := p; exact s'
    · obtain ⟨y1, rfl, s'⟩ := p
      rw [tab_len] at hi
      rw [tab_getD hi] at dx
      exact s_expr1 (K := K) (z_call (a_one (z_var (i := 1) rfl (L2.Dp.mono s' dx))) ⟨_, rfl, rfl⟩) fun H2 s2 => ⟨_, rfl, s'.trans s2⟩
    · obtain ⟨y1, rfl, s'⟩ := p
      refine (?_ : tSeq _ _ _ _ _)
      intro d nd
      have ndH : H d = none := s'.free nd
      have sd : Same H (upd H' d (.dK [])) := s'.trans (same_new nd)
      have hF0 : DV K (upd H' d (.dK [])) d (totA F 0 0) := by
        have e0 : ∀ k, totA F 0 0 k = 0 := fun k => by
          unfold totA
          rw [List.take_zero, if_neg (by simp)]
          show (0 : Rat) + 0 = 0; grind
        exact ⟨fun k _ => by rw [e0]; exact Rat.le_refl, [], [], upd_same, rfl, List.nodup_nil, fun k => ⟨fun z => absurd z (by simp), fun z => by rw [e0] at z; exact absurd z.2 (by decide)⟩, fun k hk => absurd hk (by simp)⟩
      have hnnF : ∀ j k, j ≤ n → k < 2 → 0 ≤ sm (rg j) (fun i => F i k) := fun j k hj hk => sm_nonneg fun i hi => (hF i k (by have := List.mem_range.mp hi; omega) hk).1
      refine s_forHS (K := K) (Hb := H) (fun j σ' H' => ∃ y1 y3 y4 : Option V, σ' = [some u, y1, some (.ref d), y3, y4] ∧ Same H H' ∧ DV K H' d (totA F j 0)) ((src_list (p_var (i := 0) rfl du)).h sd) ⟨y1, none, none, rfl, sd, hF0⟩ (fun i σ' H' p => ?_) (fun j σ' H' hj p x dx => ?_) (fun σ' H' p => ?_)
      · obtain ⟨_, _, _, _, s', _⟩ := p; exact s'
      · obtain ⟨y1, y3, y4, rfl, s3, hV⟩ := p
        rw [tab_len] at hj
        rw [tab_getD hj] at dx
        refine s_forP (K := K) (Hb := H) (src_fill (p_var (i := 1) rfl dx)) s3 (fun t σ' H' => ∃ y3 y4 : Option V, σ' = [some u, some x, some (.ref d), y3, y4] ∧ Same H H' ∧ DV K H' d (totA F j t)) ⟨y3, y4, rfl, s3, hV⟩ (fun i σ' H' p => ?_) (fun t σ' H' ht p y z dy dz => ?_) (fun σ' H' p => ?_)
        · obtain ⟨_, _, _, s', _⟩ := p; exact s'
        · obtain ⟨y3, y4, rfl, s4, hV⟩ := p
          obtain ⟨hk2, hkpos⟩ := mem_ents.mp (getD_in ht)
          have hnt := getD_not_take ents_nodup ht
          have htk := take_getD ht
          generalize (ents (F j)).getD t 0 = k at dy dz hk2 hkpos hnt htk
          have eT : totA F j t k = sm (rg j) fun i => F i k := by
            unfold totA; rw [if_neg hnt]; grind
          have hpos : 0 < totA F j t k + F j k := by
            have := hnnF j k (by omega) hk2
            rw [eT]; grind
          have b1 : Bd 3010 (totA F j t k) := by
            rw [eT]
            refine ((Fb.sum hD j fun i hi => (hF i k (by omega) hk2).2).mono (Nat.dvd_refl _) (show j * 40 ≤ 256 by omega)).bd hD (by decide) ?_
            have : 256 * D < 2 ^ 8 * 2 ^ 3000 := by omega
            rw [← Nat.pow_add] at this
            exact lt_pw this (by decide)
          have b2 : Bd 3010 (F j k) := (hF j k hj hk2).2.bd hD (by decide) (by
            have : 40 * D < 2 ^ 8 * 2 ^ 3000 := by omega
            rw [← Nat.pow_add] at this
            exact lt_pw this (by decide))
          refine s_dputV (K := K) (m := 2) (Hb := H) rfl hV hk2 hpos (z_call (a_cons (z_dget2 (m := 2) rfl hV hk2 (z_var (i := 3) rfl (L2.Dp.mono s4 dy)) (z_tup (a_cons z_int (a_one z_int)))) (a_one (z_var (i := 4) rfl (L2.Dp.mono s4 dz)))) ⟨_, _, 3010, 3010, rfl, b1, b2, by decide, rfl⟩) (fun H5 s5 => z_var (i := 3) rfl (L2.Dp.mono (s4.trans s5) dy)) ndH s4 fun H5 s5 hV5 => ⟨_, _, rfl, s5, hV5.congr fun i hi => ?_⟩
          show (if i = k then totA F j t k + F j k else totA F j t i) = totA F j (t + 1) i
          unfold totA
          rw [htk]
          by_cases e : i = k
          · subst e
            rw [if_pos rfl, if_neg hnt, if_pos (by simp)]; grind
          · rw [if_neg e]
            have : (i ∈ (ents (F j)).take t ++ [k]) ↔ i ∈ (ents (F j)).take t := by simp [e]
            by_cases q : i ∈ (ents (F j)).take t
            · rw [if_pos q, if_pos (this.mpr q)]
            · rw [if_neg q, if_neg fun z => q (this.mp z)]
        · obtain ⟨y3, y4, rfl, s4, hV⟩ := p
          refine ⟨_, _, _, rfl, s4, hV.congr fun k hk => ?_⟩
          unfold totA
          rw [List.take_length, List.take_zero, if_neg (show k ∉ ([] : List Nat) by simp), sm_range_succ]
          by_cases q : k ∈ ents (F j)
          · rw [if_pos q]; grind
          · rw [if_neg q]
            have h0 := (hF j k hj hk).1
            have : F j k = 0 := by
              rcases Rat.le_iff_lt_or_eq.mp h0 with c | c
              · exact absurd (mem_ents.mpr ⟨hk, c⟩) q
              · exact c.symm
            rw [this]; grind
      · obtain ⟨y1, y3, y4, rfl, s3, hV⟩ := p
        rw [tab_len] at hV
        have hV := hV.congr (b := fun k => sm (rg n) fun j => F j k) fun k hk => by
          unfold totA
          rw [List.take_zero, if_neg (by simp)]; grind
        generalize hadef : (fun k => sm (rg n) fun j => F j k) = a at hV q
        have hl := ents_len (a := a)
        have e : fillD a = .tuple (tab (ents a).length fun i => entD a ((ents a).getD i 0)) := by
          unfold fillD; rw [map_tab 0]
        rw [e] at q
        refine s_ret (K := K) (d := .tuple (tab (ents a).length fun i => entD a ((ents a).getD i 0))) (n_tuple ?_) fun v H5 s5 d5 => q v H5 (s3.trans s5) (Dn.anti s3 d5)
        refine n_lcA (it := fun i => .str (kn ((ents a).getD i 0))) (fun H1 s1 R qR => ?_) (by omega) (fun i hi x H1 s1 dx => ?_)
        · obtain ⟨nn, kvs, ks, h1, h2, h3, h4, h5⟩ := hV
          refine ⟨.ref d, rfl, d, kvs, ks.map kn, rfl, .inl (s1 _ _ h1), by rw [h2, List.map_map]; rfl, ?_, fun ys p hp hs hn => ?_⟩
          · rw [List.length_map]
            have := nodup_len h3 fun k hk => ((h4 k).mp hk).1
            omega
          have ey := sorted_kn h3 h4 hp hs
          subst ey
          have sp := same_new (o := .lst (((ents a).map kn).map V.str)) hn
          refine ⟨p, rfl, ⟨_, SqL.of upd_same⟩, qR _ _ sp ?_⟩
          have hx : DpAll K (upd H1 p (.lst (((ents a).map kn).map V.str))) (((ents a).map kn).map V.str) ((ents a).map fun k => .str (kn k)) := by
            have gen : ∀ l : List Nat, DpAll K (upd H1 p (.lst (((ents a).map kn).map V.str))) ((l.map kn).map V.str) (l.map fun k => .str (kn k)) := by
              intro l
              induction l with
              | nil => exact .nil
              | cons x l ih => exact .cons (.str _) ih
            exact gen _
          have h := itl_at (K := K) (SqL.of upd_same) hx
          rw [List.length_map] at h
          refine ⟨h.go, fun H i x H' s hi y => ?_, h.stop⟩
          obtain ⟨a1, a2⟩ := h.yld H i x H' s hi y
          refine ⟨a1, ?_⟩
          have e2 : ((ents a).map fun k => PyData.str (kn k)).getD i .none = .str (kn ((ents a).getD i 0)) := by
            rw [List.getD_eq_getElem?_getD, List.getElem?_map, List.getElem?_eq_getElem hi, List.getD_eq_getElem?_getD, List.getElem?_eq_getElem hi]; rfl
          rw [e2] at a2
          exact a2
        · exact Ez.en (z_tup (a_cons (z_var (i := 3) rfl dx) (a_one (z_dgetV (m := 2) rfl (hV.same s1) (getD_in hi) (z_var (i := 3) rfl dx)))))
end
end Ck
end

section
set_option Elab.async false
set_option linter.all false
set_option maxRecDepth 100000
set_option maxHeartbeats 4000000
/-! worked, after. -/
namespace Ck
open PySem PySem.Spec PyProof.Rows L2
structure Cel (n : Nat) (C : Wine) (D : Nat) : Prop where
  pos : 0 < D
  nn : ∀ i k, i < n → k < 2 → 0 ≤ C i k
  dn : ∀ i k, i < n → k < 2 → (C i k).den ∣ D
  tot : ∀ k, k < 2 → sm (rg n) (fun i => C i k) ≤ 40
def wkd (n : Nat) (A : Mx) (C : Wine) : Wine := fun i k => sm (rg n) fun j => C j k * A i j
section
variable {n D DA : Nat} {A : Mx} {C : Wine}
theorem Cel.le (c : Cel n C D) {i k : Nat} (hi : i < n) (hk : k < 2) : C i k ≤ 40 :=
  Rat.le_trans (sm_ge_one (f := fun i => C i k) (List.mem_range.mpr hi) fun j hj => c.nn j k (List.mem_range.mp hj) hk) (c.tot k hk)
theorem fb40 {q : Rat} (h : q.den ∣ D) (h0 : 0 ≤ q) (h1 : q ≤ 40) : Fb D 40 q := ⟨h, num_le.mpr (by rw [ab_of_nonneg h0]; exact h1)⟩
theorem Cel.fb (c : Cel n C D) {i k : Nat} (hi : i < n) (hk : k < 2) : Fb D 40 (C i k) := fb40 (c.dn i k hi hk) (c.nn i k hi hk) (c.le hi hk)
theorem Cel.bd (c : Cel n C D) {e : Nat} (hD : D < 2 ^ e) {i k : Nat} (hi : i < n) (hk : k < 2) : Bd (e + 6) (C i k) := (c.fb hi hk).bd c.pos (by decide) (by
  have : 40 * D < 2 ^ 6 * 2 ^ e := by omega
  rw [← Nat.pow_add] at this
  exact lt_pw this (by omega))
theorem prod_le {x y : Rat} (hx : 0 ≤ x) (h0 : 0 ≤ y) (h1 : y ≤ 1) : 0 ≤ x * y ∧ x * y ≤ x := by
  refine ⟨Rat.mul_nonneg hx h0, ?_⟩
  have := Rat.mul_le_mul_of_nonneg_left h1 hx
  rw [Rat.mul_one] at this; exact this
theorem Cel.part (c : Cel n C D) (t : Tab n A) (hA : 0 < DA) (hd : ∀ i j, i < n → j < n → (A i j).den ∣ DA) {i j k : Nat} (hi : i < n) (hj : j < n) (hk : k < 2) : 0 ≤ C j k * A i j ∧ Fb (D * DA) 40 (C j k * A i j) := by
  obtain ⟨a, b⟩ := prod_le (c.nn j k hj hk) (t.nn i j hi hj) (t.le1 hi hj)
  exact ⟨a, fb40 (den_mul c.pos hA (c.dn j k hj hk) (hd i j hi hj)) a (Rat.le_trans b (c.le hj hk))⟩
theorem Cel.wkd (c : Cel n C D) (t : Tab n A) (hA : 0 < DA) (hd : ∀ i j, i < n → j < n → (A i j).den ∣ DA) : Cel n (wkd n A C) (D * DA) := by
  have hDD := Nat.mul_pos c.pos hA
  refine ⟨hDD, fun i k hi hk => sm_nonneg fun j hj => (c.part t hA hd hi (List.mem_range.mp hj) hk).1, fun i k hi hk => den_sm hDD fun j hj => (c.part t hA hd hi (List.mem_range.mp hj) hk).2.1, fun k hk => ?_⟩
  refine Rat.le_trans ?_ (c.tot k hk)
  show sm (rg n) (fun i => sm (rg n) fun j => C j k * A i j) ≤ _
  rw [sm_swap]
  refine sm_le fun j hj => ?_
  have hj := List.mem_range.mp hj
  rw [sm_mul]
  have h1 := t.le j hj
  have := Rat.mul_le_mul_of_nonneg_left h1 (c.nn j k hj hk)
  rw [Rat.mul_one] at this; exact this
theorem wkd_mul {B : Mx} (i k : Nat) : wkd n A (wkd n B C) i k = wkd n (mul n A B) C i k := by
  show sm (rg n) (fun j => (sm (rg n) fun l => C l k * B j l) * A i j) = sm (rg n) fun l => C l k * sm (rg n) fun j => A i j * B j l
  have e1 : sm (rg n) (fun j => (sm (rg n) fun l => C l k * B j l) * A i j) = sm (rg n) (fun j => sm (rg n) fun l => C l k * B j l * A i j) := sm_congr fun j _ => by rw [sm_mulr]
  rw [e1, sm_swap]
  refine sm_congr fun l _ => ?_
  rw [← sm_mul]
  exact sm_congr fun j _ => by grind
theorem wkd_congr {B : Mx} (h : Eqn n A B) {i k : Nat} (hi : i < n) : wkd n A C i k = wkd n B C i k := sm_congr fun j hj => by rw [h i j hi (List.mem_range.mp hj)]
end
section
variable {P : Program} {w : World} {K : Fg} {mg : Str → Option Value} {base : Heap}
abbrev s_worked : Stmt := topS 50
abbrev N_worked : List Str := ["table", "cellar", "row", "fill", "share"]
theorem sc_worked : FnScope N_worked ["table", "cellar"] (defScope s_worked) := ⟨rfl, rfl, rfl, by decide +kernel, rfl, by decide +kernel, by decide +kernel⟩
theorem b_worked (T : Txt K mg) : Binds K (T.fd 33) ["table", "cellar"] [] := (T.F 33 _ rfl).binds (ps := ["table", "cellar"]) fun _ _ _ _ _ _ us hl => match us, hl with | [_, _], _ => rfl

def PWrk : List PyData → PyData → Prop := fun ds r => ∃ (n : Nat) (A : Mx) (C : Wine) (D DA : Nat), ds = [tabD n A, cellD n C] ∧ Tb n A ∧ Cel n C D ∧ 0 < DA ∧ (∀ i j, i < n → j < n → (A i j).den ∣ DA) ∧ D < 2 ^ 1500 ∧ DA < 2 ^ 1490 ∧ r = cellD n (wkd n A C)
theorem ok_worked (T : Txt K mg) : FnOk P w K mg base CX0 8 (T.fa 33) (T.fd 33) ["table", "cellar"] (spD K PWrk) := by
  refine okD (T.F 33 _ rfl) sc_worked (fun ds r h => ?_) (fun cdv A0 outer s H vs Q E ds r hr hv hp q => ?_)
  · obtain ⟨_, _, _, _, _, rfl, _⟩ := h; rfl
  · obtain ⟨n, A, C, D, DA, rfl, t, c, hDA, hd, hDs, hAs, rfl⟩ := hp
    obtain ⟨u, v, rfl, du, dv⟩ := two_of hv
    refine ⟨_, (pss_cons (ps_expr (pe_call (ok_need_table T) (hr.mono (by decide)) (by rfl) (T.g 25 _ rfl) (T.F 25 _ rfl).kp (b_need_table T) .nil pass0 (pa_cons (pv 0) pa_nil)))
      (pss_cons (ps_expr (pe_call (ok_need_cellar T) (hr.mono (by decide)) (by rfl) (T.g 19 _ rfl) (T.F 19 _ rfl).kp (b_need_cellar T) .nil pass0 (pa_cons (pv 1) pa_nil)))
      (pss_cons (ps_if (pt_cmpR (op_neK K hr.units) (pe_callB (call_lenK K) (by rfl) (T.n "len") PySem.boot_len (pa_cons (pv 0) pa_nil)) (pe_callB (call_lenK K) (by rfl) (T.n "len") PySem.boot_len (pa_cons (pv 1) pa_nil)) (nomark _))
       (pss_one ps_never)
       pss_nil)
      (pss_one (ps_ret (pe_callTy (call_tupleK K) (by rfl) (T.n "tuple") (by decide +kernel) (pa_cons (pe_lc (own := [("row", 2)])  rfl sc_worked.nd (pi_tupK K (pv 0)) (blkOk_by (N := N_worked) (sc := defScope s_worked) (by decide +kernel)) (fun _ _ _ _ _ => (pg_name (i := 2) sc_worked.nd rfl (Or.inl rfl))) (fun _ _ _ _ _ => pts_nil) (fun _ _ _ _ _ => (pe_call (ok_together T) (hr.mono (by decide)) (by rfl) (T.g 21 _ rfl) (T.F 21 _ rfl).kp (b_together T) .nil pass0 (pa_cons (pe_lc (own := [("fill", 3), ("share", 4)])  rfl sc_worked.nd (pi_zipK K (by rfl) (T.n "zip") (pa_cons (pv 1) (pa_cons (pv 2) pa_nil))) (blkOk_by (N := N_worked) (sc := (relS ({ kind := PySem.ScopeKind.function, names := [ (PySem.Str.ofString ".0", PySem.NameKind.local), (PySem.Str.ofString "row", PySem.NameKind.local), (PySem.Str.ofString "together", PySem.NameKind.globalImplicit), (PySem.Str.ofString "zip", PySem.NameKind.globalImplicit), (PySem.Str.ofString "cellar", PySem.NameKind.free)], isGenerator := false, isCoroutine := false, more := [] : PySem.Scope }) (defScope s_worked))) (by decide +kernel)) (fun _ _ _ _ _ => (pg_tupK K (n := 2) rfl (pgs_cons (pg_name (i := 3) sc_worked.nd rfl (Or.inl rfl)) (pgs_cons (pg_name (i := 4) sc_worked.nd rfl (Or.inl rfl)) pgs_nil)))) (fun _ _ _ _ _ => pts_nil) (fun _ _ _ _ _ => (pe_call (ok_part T) (hr.mono (by decide)) (by rfl) (T.g 22 _ rfl) (T.F 22 _ rfl).kp (b_part T) .nil pass0 (pa_cons (pv 3) (pa_cons (pv 4) pa_nil))))) pa_nil)))) pa_nil))))))), ?_⟩
    have h5 := t.n5
    have h1 := t.n1
    refine s_expr (z_call (a_one (z_var (i := 0) rfl du)) ⟨n, A, rfl, t, rfl⟩) fun H1 s1 => ?_
    refine s_expr (z_call (a_one (z_var (i := 1) rfl (L2.Dp.mono s1 dv))) ⟨n, C, rfl, h1, h5, rfl⟩) fun H2 s2 => ?_
    have s12 := s1.trans s2
    refine s_pass ?_ fun H3 s3 => ?_
    · have h1 := z_lenT (K := K) (z_var (σ := start N_worked [u, v]) (i := 0) rfl (L2.Dp.mono s12 du))
      have h2 := z_lenT (K := K) (z_var (σ := start N_worked [u, v]) (i := 1) rfl (L2.Dp.mono s12 dv))
      rw [tab_len] at h1 h2
      have h := z_neI h1 h2
      rw [decide_eq_true rfl] at h
      exact t_val h
    have s13 := s12.trans s3
    have du3 := L2.Dp.mono s13 du
    have dv3 := L2.Dp.mono s13 dv
    have hDDs : D * DA < 2 ^ 3000 := lt_pw (lt_mul hDs hAs) (by decide)
    refine s_ret (K := K) (d := cellD n (wkd n A C)) (n_tuple ?_) fun v H4 s4 d4 => q v H4 (s13.trans s4) (Dn.anti s13 d4)
    have h := n_lcA (K := K) (σ := start N_worked [u, v]) (H := H3) (vs := [2]) (j := 2) (te := tCall (spD K PTog) [] E0 (tCons (tLc (iZipX K (tCons (tVar 1) (tCons (tVar 2) tNil))) (g2 K 3 4) tYes (tCall (spD K PPart) [] E0 (tCons (tVar 3) (tCons (tVar 4) tNil))) [3, 4]) tNil)) (gd := fun i => fillD (wkd n A C i)) (src_tup (p_var (i := 0) rfl du3)).g (by rw [tab_len]; omega) (fun i hi x H4 s4 dx => by
      rw [tab_len] at hi
      rw [tab_getD hi] at dx
      refine n_call (ds := [.list (tab n fun j => fillD fun k => C j k * A i j)]) (a_one (En.ez ?_)) ⟨n, fun j k => C j k * A i j, D * DA, rfl, h5, Nat.mul_pos c.pos hDA, hDDs, fun j k hj hk => c.part t.tab hDA hd hi hj hk, rfl⟩
      have h := n_lc2A (K := K) (σ := [some u, some v, some x, none, none]) (H := H4) (vs := [3, 4]) (j := 3) (k := 4) (te := tCall (spD K PPart) [] E0 (tCons (tVar 3) (tCons (tVar 4) tNil))) (gd := fun j => fillD fun k => C j k * A i j)
        (src_zip (ap_cons (p_var (i := 1) rfl (L2.Dp.mono s4 dv3)) (ap_one (p_var (i := 2) rfl dx))) (.inr (.inl ⟨rfl, rfl⟩)) (by rw [tab_len, tab_len])) (by rw [tab_len]; omega) (fun j hj y z H5 s5 dy dz => by
          rw [tab_len] at hj
          rw [tab_getD hj] at dy dz
          exact n_call (a_cons (z_var (i := 3) rfl dy) (a_one (z_var (i := 4) rfl dz))) ⟨C j, A i j, 1506, 3000, rfl, t.tab.nn i j hi hj, t.tab.le1 hi hj, fun k hk => c.bd hDs hj hk, t.bd hi hj, by decide, rfl⟩)
      rw [tab_len] at h
      exact h)
    rw [tab_len] at h
    exact h
abbrev s_after : Stmt := topS 52
abbrev N_after : List Str := ["table", "rounds", "cellar"]
theorem sc_after : FnScope N_after ["table", "rounds", "cellar"] (defScope s_after) := ⟨rfl, rfl, rfl, by decide +kernel, rfl, by decide +kernel, by decide +kernel⟩
theorem b_after (T : Txt K mg) : Binds K (T.fd 34) ["table", "rounds", "cellar"] [] := (T.F 34 _ rfl).binds (ps := ["table", "rounds", "cellar"]) fun _ _ _ _ _ _ us hl => match us, hl with | [_, _, _], _ => rfl

def PAft : List PyData → PyData → Prop := fun ds r => ∃ (n : Nat) (A : Mx) (C : Wine) (D DA R : Nat), ds = [tabD n A, .int (R : Int), cellD n C] ∧ Tb n A ∧ Cel n C D ∧ 0 < DA ∧ (∀ i j, i < n → j < n → (A i j).den ∣ DA) ∧ D < 2 ^ 1500 ∧ DA ^ (R + 1) < 2 ^ 1490 ∧ r = cellD n (wkd n (pw n A R) C)
theorem ok_after (T : Txt K mg) : FnOk P w K mg base CX0 9 (T.fa 34) (T.fd 34) ["table", "rounds", "cellar"] (spD K PAft) := by
  refine okD (T.F 34 _ rfl) sc_after (fun ds r h => ?_) (fun cdv A0 outer s H vs Q E ds r hr hv hp q => ?_)
  · obtain ⟨_, _, _, _, _, _, rfl, _⟩ := h; rfl
  · obtain ⟨n, A, C, D, DA, R, rfl, t, c, hDA, hd, hDs, hAs, rfl⟩ := hp
    obtain ⟨u, v1, v, rfl, du, dv1, dv⟩ := three_of hv
    cases dv1
    refine ⟨_, (pss_cons (ps_expr (pe_call (ok_need_table T) (hr.mono (by decide)) (by rfl) (T.g 25 _ rfl) (T.F 25 _ rfl).kp (b_need_table T) .nil pass0 (pa_cons (pv 0) pa_nil)))
      (pss_cons (ps_if (pt_cmpR op_lt (pv 1) pe_int (nomark _))
       (pss_one ps_never)
       pss_nil)
      (pss_cons (ps_expr (pe_call (ok_need_cellar T) (hr.mono (by decide)) (by rfl) (T.g 19 _ rfl) (T.F 19 _ rfl).kp (b_need_cellar T) .nil pass0 (pa_cons (pv 2) pa_nil)))
      (pss_cons (ps_if (pt_cmpR (op_neK K hr.units) (pe_callB (call_lenK K) (by rfl) (T.n "len") PySem.boot_len (pa_cons (pv 0) pa_nil)) (pe_callB (call_lenK K) (by rfl) (T.n "len") PySem.boot_len (pa_cons (pv 2) pa_nil)) (nomark _))
       (pss_one ps_never)
       pss_nil)
      (pss_one (ps_ret (pe_call (ok_worked T) (hr.mono (by decide)) (by rfl) (T.g 33 _ rfl) (T.F 33 _ rfl).kp (b_worked T) .nil pass0 (pa_cons (pe_call (ok_power T) (hr.mono (by decide)) (by rfl) (T.g 32 _ rfl) (T.F 32 _ rfl).kp (b_power T) .nil pass0 (pa_cons (pv 0) (pa_cons (pv 1) pa_nil))) (pa_cons (pv 2) pa_nil))))))))), ?_⟩
    have h5 := t.n5
    have h1 := t.n1
    refine s_expr (z_call (a_one (z_var (i := 0) rfl du)) ⟨n, A, rfl, t, rfl⟩) fun H1 s1 => ?_
    refine s_pass ?_ fun H2 s2 => ?_
    · have h := z_cmp (K := K) (p := fun i j => decide (i < j)) (z_var (σ := start N_after [u, .int R, v]) (H := H1) (i := 1) rfl (.int _)) (z_int (i := 0))
      rw [decide_eq_false (show ¬ (R : Int) < 0 by omega)] at h
      exact t_val h
    have s12 := s1.trans s2
    refine s_expr (z_call (a_one (z_var (i := 2) rfl (L2.Dp.mono s12 dv))) ⟨n, C, rfl, h1, h5, rfl⟩) fun H3 s3 => ?_
    have s13 := s12.trans s3
    refine s_pass ?_ fun H4 s4 => ?_
    · have h1 := z_lenT (K := K) (z_var (σ := start N_after [u, .int R, v]) (i := 0) rfl (L2.Dp.mono s13 du))
      have h2 := z_lenT (K := K) (z_var (σ := start N_after [u, .int R, v]) (i := 2) rfl (L2.Dp.mono s13 dv))
      rw [tab_len] at h1 h2
      have h := z_neI h1 h2
      rw [decide_eq_true rfl] at h
      exact t_val h
    have s14 := s13.trans s4
    have hle : DA ^ R ≤ DA ^ (R + 1) := Nat.pow_le_pow_right hDA (by omega)
    have hAR : DA ^ R < 2 ^ 1490 := Nat.lt_of_le_of_lt hle hAs
    have hdR := den_pw hDA hd R
    have tR : Tb n (pw n A R) := ⟨t.tab.pw R, h1, h5, DA ^ R, Nat.pow_pos hDA, lt_pw hAR (by decide), hdR⟩
    exact s_ret (K := K) (d := cellD n (wkd n (pw n A R) C)) (n_call (a_cons (z_call (a_cons (z_var (i := 0) rfl (L2.Dp.mono s14 du)) (a_one (z_var (i := 1) rfl (.int _)))) ⟨n, A, R, DA, rfl, t, hDA, hd, lt_pw hAs (by decide), rfl⟩) (a_one (z_var (i := 2) rfl (L2.Dp.mono s14 dv)))) ⟨n, pw n A R, C, D, DA ^ R, rfl, tR, c, Nat.pow_pos hDA, hdR, hDs, hAR, rfl⟩) fun v H5 s5 d5 => q v H5 (s14.trans s5) (Dn.anti s14 d5)
end
end Ck
end

section
set_option Elab.async false
set_option linter.all false
set_option maxRecDepth 100000
set_option maxHeartbeats 4000000
/-! the law's jug; lowest terms. -/
namespace Ck
open PySem PySem.Spec PyProof.Rows L2
theorem bits_le {i : Int} {k : Nat} (hk : 0 < k) (h : i.natAbs < 2 ^ k) : Builtin.Int.intBits i ≤ k := by
  unfold Builtin.Int.intBits
  split
  · omega
  · have := log2_lt hk h; omega
section
variable {P : Program} {w : World} {K : Fg} {mg : Str → Option Value} {base : Heap}
section
variable {σ : L2.St} {H Hb : Hp} {ta tb te : TE} {tr : TA} {i j : Int} {D : Ends} {rest : TS}
theorem z_pow (ha : Ez K ta σ H (.int i)) (hb : Ez K tb σ H (.int j)) (hc : CPowX i j) : Ez K (tOp (rI CPowX fun i j => .int (i ^ j.toNat)) ta tb) σ H (.int (i ^ j.toNat)) := z_intC (g := fun i j => i ^ j.toNat) ha hb hc
theorem z_mod (ha : Ez K ta σ H (.int i)) (hb : Ez K tb σ H (.int j)) (hc : 0 < j) : Ez K (tOp (rI (fun _ j => 0 < j) fun i j => .int (i % j)) ta tb) σ H (.int (i % j)) := z_intC (C := fun _ j => 0 < j) (g := fun i j => i % j) ha hb hc
theorem z_max2 (ha : Ez K ta σ H (.int i)) (hb : Ez K tb σ H (.int j)) : Ez K (tCB (fun xs H Q => ∃ i j, xs = [.int i, .int j] ∧ Q (.int (if j > i then j else i)) H) (tCons ta (tCons tb tNil))) σ H (.int (if j > i then j else i)) := z_cb (a_cons ha (a_one hb)) fun vs H1 s dv Q q => by
  obtain ⟨x, y, rfl, dx, dy⟩ := two_of dv
  cases dx; cases dy
  exact ⟨i, j, rfl, q _ _ (Same.refl _) (.int _)⟩
theorem srcH_big {n : Nat} (h : Ap K tr σ H [.int (n : Int)]) (hn : n ≤ 1000000) : SrcH K (iRng1 tr) σ H Hb n fun i => .int i := fun R q => h H (Same.refl _) _ fun vs dv => by
  cases dv with
  | cons d1 d2 =>
    cases d1; cases d2
    refine ⟨n, rfl, by omega, by omega, ?_⟩
    have e := itr_at (K := K) (Hb := Hb) (lo := 0) (n := n)
    simp only [Int.zero_add] at e
    exact q _ e
/-- x[k] = e, x a list of ints -/
theorem s_setJ {m : Nat} {a : Addr} {xs : List V} {k : Nat} {x : Int} (hm : σ[m]? = some (some (.ref a))) (h : H a = some (.lst xs)) (hk : k < xs.length) (he : Ez K te σ H (.int x)) (kk : ∀ H2, Same H H2 → rest D σ (upd H2 a (.lst (xs.set k (.int x))))) : tSeq (tAsg te (gSub (tVar m) (tC (.int (k : Int))) rSetL)) rest D σ H := by
  refine he H (Same.refl _) _ fun v H2 s2 dv => ?_
  cases dv
  exact ⟨.ref a, hm, a, xs, k, k, rfl, rfl, s2 _ _ h, ixN_nat hk, kk H2 s2⟩
end
abbrev s_law_jug : Stmt := topS 66
abbrev N_law_jug : List Str := ["_law_cell", "_law_k"]
theorem sc_law_jug : FnScope N_law_jug ["_law_cell", "_law_k"] (defScope s_law_jug) := ⟨rfl, rfl, rfl, by decide +kernel, rfl, by decide +kernel, by decide +kernel⟩
theorem b_law_jug (T : Txt K mg) : Binds K (T.fd 47) ["_law_cell", "_law_k"] [] := (T.F 47 _ rfl).binds (ps := ["_law_cell", "_law_k"]) fun _ _ _ _ _ _ us hl => match us, hl with | [_, _], _ => rfl

def PJug : List PyData → (PyData → Prop) → Prop := fun ds R => ∃ c k : Int, ds = [.int c, .int k] ∧ R = fun r => ∃ a b : Int, 0 ≤ b ∧ b < 2 ^ 82 ∧ r = .list [.int a, .int b, .int 0]
theorem ok_law_jug (T : Txt K mg) : FnOk P w K mg base CX0 1 (T.fa 47) (T.fd 47) ["_law_cell", "_law_k"] (spR K PJug) := by
  refine okR (T.F 47 _ rfl) sc_law_jug (fun ds r h => ?_) (fun cdv A outer s H vs Q E ds R hr hv hp q => ?_)
  · obtain ⟨_, _, rfl, _⟩ := h; rfl
  · obtain ⟨c, k, rfl, rfl⟩ := hp
    obtain ⟨u, v, rfl, du, dv⟩ := two_of hv
    cases du; cases dv
    refine ⟨_, (pss_one (ps_ret (pe_lst (pa_cons (pe_callB (call_max2 rfl) (by rfl) (T.n "max") (by decide +kernel) (pa_cons pe_int (pa_cons (pe_op op_sub (pv 0) (pe_op op_powX pe_int pe_int)) pa_nil))) (pa_cons (pe_op op_mod (pe_callTy call_int1 (by rfl) (T.n "int") (by decide +kernel) (pa_cons (pe_op op_add (pe_op op_mulX (pv 0) pe_int) (pe_op op_mulX (pe_op op_add (pv 1) pe_int) pe_int)) pa_nil)) (pe_op op_add (pe_op op_powX pe_int pe_int) pe_int)) (pa_cons pe_int pa_nil)))))), ?_⟩
    have hp : (0 : Int) < 10 ^ (24 : Int).toNat + 7 := by decide
    have zc : Ez K (tVar 0) (start N_law_jug [.int c, .int k]) H (.int c) := z_var rfl (.int _)
    have zk : Ez K (tVar 1) (start N_law_jug [.int c, .int k]) H (.int k) := z_var rfl (.int _)
    refine s_ret (K := K) (d := .list [.int _, .int ((c * 32452843 + (k + 11) * 49979687) % (10 ^ (24 : Int).toNat + 7)), .int 0]) (n_lst (an_cons (z_max2 z_int (z_sub zc (z_pow z_int z_int ⟨by decide, by decide⟩))).en (an_cons (z_mod (z_intI (z_add (z_mul zc z_int (.of_right (intBits_le_64 (by decide) (by decide)))) (z_mul (z_add zk z_int) z_int (.of_right (intBits_le_64 (by decide) (by decide)))))) (z_add (z_pow z_int z_int ⟨by decide, by decide⟩) z_int) hp).en (an_cons z_int.en an_nil)))) fun v H2 s2 d2 => q _ ⟨_, _, Int.emod_nonneg _ (by omega), ?_, rfl⟩ v H2 s2 d2
    have h := Int.emod_lt_of_pos (c * 32452843 + (k + 11) * 49979687) hp
    have h2 : (10 : Int) ^ (24 : Int).toNat + 7 < 2 ^ 82 := by decide
    omega
/-- the jug stands at ja -/
def JG (H : Hp) (ja : Addr) (Z : Nat) : Prop := ∃ a b z : Int, H ja = some (.lst [.int a, .int b, .int z]) ∧ 0 ≤ b ∧ b < 2 ^ 82 ∧ 0 ≤ z ∧ z ≤ Z
theorem JG.mono {H H' : Hp} {ja : Addr} {Z : Nat} (h : JG H ja Z) (s : Same H H') : JG H' ja Z := let ⟨a, b, z, e, r⟩ := h; ⟨a, b, z, s _ _ e, r⟩
abbrev s_law_drop : Stmt := topS 67
abbrev N_law_drop : List Str := ["_law_jug_here", "_law_many", "_law_drop_here", "_law_stirred"]
theorem sc_law_drop : FnScope N_law_drop ["_law_jug_here", "_law_many"] (defScope s_law_drop) := ⟨rfl, rfl, rfl, by decide +kernel, rfl, by decide +kernel, by decide +kernel⟩
theorem b_law_drop (T : Txt K mg) : Binds K (T.fd 48) ["_law_jug_here", "_law_many"] [] := (T.F 48 _ rfl).binds (ps := ["_law_jug_here", "_law_many"]) fun _ _ _ _ _ _ us hl => match us, hl with | [_, _], _ => rfl

def spDrop (K : Fg) : Sp := fun vs H Q E => ∃ (ja : Addr) (many Z : Nat), vs = [.ref ja, .int (many : Int)] ∧ 0 < many ∧ many < 1000 ∧ JG H ja Z ∧ Z ≤ 100000 ∧ ∀ (r : Nat) H', r < many → SameX ja H H' → JG H' ja (Z + 1) → Q (.int (r : Int)) H'
theorem ok_law_drop (T : Txt K mg) : FnOk P w K mg base CX0 1 (T.fa 48) (T.fd 48) ["_law_jug_here", "_law_many"] (spDrop K) := by
  refine (T.F 48 _ rfl).ok sc_law_drop (fun vs H Q E h => ?_) (fun cdv A outer s H vs Q E hr h => ?_)
  · obtain ⟨_, _, _, rfl, _⟩ := h; rfl
  · obtain ⟨ja, many, Z, rfl, hm, hm9, ⟨a, b, z, e, hb0, hb1, hz0, hz1⟩, hZ, q⟩ := h
    refine ⟨_, (pss_cons (ps_if (pt_cmpR op_gt (pe_ix (ix_seqK K) (pv 0) pe_int (fun _ _ => rfl)) pe_int (nomark _))
       (pss_cons (ps_set (i := 2) sc_law_drop.nd rfl (Or.inl rfl) (pe_op op_mod (pe_callTy call_int1 (by rfl) (T.n "int") (by decide +kernel) (pa_cons (pe_ix (ix_seqK K) (pv 0) pe_int (fun _ _ => rfl)) pa_nil)) (pv 1)))
       (pss_cons (ps_asg (pe_op op_fdivX (pe_ix (ix_seqK K) (pv 0) pe_int (fun _ _ => rfl)) (pv 1)) (pg_sub (pv 0) pe_int set_list))
       (pss_one (ps_ret (pv 2)))))
       pss_nil)
      (pss_cons (ps_asg (pe_op op_add (pe_ix (ix_seqK K) (pv 0) pe_int (fun _ _ => rfl)) pe_int) (pg_sub (pv 0) pe_int set_list))
      (pss_cons (ps_set (i := 3) sc_law_drop.nd rfl (Or.inl rfl) (pe_op op_mod (pe_callTy call_int1 (by rfl) (T.n "int") (by decide +kernel) (pa_cons (pe_op op_powX (pe_op op_add (pe_ix (ix_seqK K) (pv 0) pe_int (fun _ _ => rfl)) (pe_op op_mulX (pe_ix (ix_seqK K) (pv 0) pe_int (fun _ _ => rfl)) pe_int)) pe_int) pa_nil)) (pe_op op_add (pe_op op_powX pe_int pe_int) pe_int)))
      (pss_one (ps_ret (pe_op op_mod (pe_op op_fdivX (pe_op op_mod (pe_callTy call_int1 (by rfl) (T.n "int") (by decide +kernel) (pa_cons (pe_op op_add (pe_op op_powX (pv 3) pe_int) (pe_op op_fdivX (pv 3) pe_int)) pa_nil)) (pe_op op_add (pe_op op_powX pe_int pe_int) pe_int)) pe_int) (pv 1))))))), ?_⟩
    have dj : ∀ {H' : Hp} {a b z : Int}, H' ja = some (.lst [.int a, .int b, .int z]) → Dp K H' (.ref ja) (.list [.int a, .int b, .int z]) := fun e => .lst (SqL.of e) (.cons (.int _) (.cons (.int _) (.cons (.int _) .nil)))
    have zj : ∀ {σ : L2.St} {H' : Hp} {a b z : Int}, σ[0]? = some (some (.ref ja)) → H' ja = some (.lst [.int a, .int b, .int z]) → Ez K (tVar 0) σ H' (.list [.int a, .int b, .int z]) := fun h e => z_var h (dj e)
    have hmp : (0 : Int) < (many : Int) := by omega
    have fin : ∀ (x : Int), 0 ≤ x → x < many → ∃ r : Nat, x = (r : Int) ∧ r < many := fun x h0 h1 => ⟨x.toNat, by omega, by omega⟩
    refine s_if (b := decide (0 < a)) (t_val (K := K) (z_cmp (p := fun i j => decide (j < i)) (z_ixL (i := 0) (zj rfl e) z_int rfl) z_int)) (fun hb H1 s1 => ?_) (fun hb H1 s1 => ?_)
    · have ha : 0 < a := of_decide_eq_true hb
      refine s_set (K := K) (z_mod (z_intI (z_ixL (i := 0) (zj rfl (s1 _ _ e)) z_int rfl)) (z_var (i := 1) rfl (.int _)) hmp) fun v H2 s2 d2 => ?_
      cases d2
      have e2 := s2 _ _ (s1 _ _ e)
      refine s_setJ (K := K) (m := 0) (k := 0) rfl e2 (show 0 < 3 by decide) (z_fdiv (z_ixL (i := 0) (zj rfl e2) z_int rfl) (z_var (i := 1) rfl (.int _)) ⟨by omega, log2_lt (by decide) (by rw [Int.natAbs_natCast]; exact Nat.lt_of_lt_of_le hm9 (Nat.le_trans (show 1000 ≤ 2 ^ 10 by decide) (Nat.pow_le_pow_right (by decide) (by decide))))⟩) fun H3 s3 => ?_
      obtain ⟨r, er, hr⟩ := fin _ (Int.emod_nonneg a (by omega)) (Int.emod_lt_of_pos a hmp)
      refine ⟨.int _, rfl, ?_⟩
      rw [er]
      exact q r _ hr ((SameX.of ((s1.trans s2).trans s3)).trans .upd) ⟨_, b, z, upd_same, hb0, hb1, hz0, by omega⟩
    · unfold tNext
      dsimp only
      have e1 := s1 _ _ e
      refine s_setJ (K := K) (m := 0) (k := 2) rfl e1 (show 2 < 3 by decide) (z_add (z_ixL (i := 2) (zj rfl e1) z_int rfl) z_int) fun H2 s2 => ?_
      have e2 : upd H2 ja (.lst ([V.int a, .int b, .int z].set 2 (.int (z + 1)))) ja = some (.lst [.int a, .int b, .int (z + 1)]) := upd_same
      have sx2 : SameX ja H (upd H2 ja (.lst ([V.int a, .int b, .int z].set 2 (.int (z + 1))))) := (SameX.of (s1.trans s2)).trans .upd
      generalize hH2 : upd H2 ja (.lst ([V.int a, .int b, .int z].set 2 (.int (z + 1)))) = H2' at e2 sx2 ⊢
      have hzn : (z + 1).natAbs < 2 ^ 17 := by omega
      have hbn : b.natAbs < 2 ^ 82 := by omega
      have hprod : ((z + 1) * 17624813).natAbs < 2 ^ 82 := lt_pw (natAbs_mul_lt hzn (show (17624813 : Int).natAbs < 2 ^ 25 by decide)) (by decide)
      have hsum : (b + (z + 1) * 17624813).natAbs < 2 ^ 83 := natAbs_add_lt hbn hprod
      have hp1 : (0 : Int) < 10 ^ (27 : Int).toNat + 103 := by decide
      have hpow : CPowX (b + (z + 1) * 17624813) 3 := ⟨by decide, by have := bits_le (by decide) hsum; omega⟩
      refine s_set (K := K) (z_mod (z_intI (z_pow (z_add (z_ixL (i := 1) (zj rfl e2) z_int rfl) (z_mul (z_ixL (i := 2) (zj rfl e2) z_int rfl) z_int (.of_right (intBits_le_64 (by decide) (by decide))))) z_int hpow)) (z_add (z_pow z_int z_int ⟨by decide, by decide⟩) z_int) hp1) fun v H3 s3 d3 => ?_
      cases d3
      have hs0 := Int.emod_nonneg ((b + (z + 1) * 17624813) ^ (3 : Int).toNat) (show (10 : Int) ^ (27 : Int).toNat + 103 ≠ 0 by omega)
      have hs1 := Int.emod_lt_of_pos ((b + (z + 1) * 17624813) ^ (3 : Int).toNat) hp1
      generalize (b + (z + 1) * 17624813) ^ (3 : Int).toNat % (10 ^ (27 : Int).toNat + 103) = st at hs0 hs1
      have hst : st.natAbs < 2 ^ 91 := by
        have : (10 : Int) ^ (27 : Int).toNat + 103 < 2 ^ 91 := by decide
        omega
      have hp2 : (0 : Int) < 10 ^ (23 : Int).toNat + 117 := by decide
      refine s_ret (K := K) (Ez.en (z_mod (z_fdiv (z_mod (z_intI (z_add (z_pow (z_var (i := 3) rfl (.int _)) z_int ⟨by decide, by have := bits_le (by decide) hst; omega⟩) (z_fdiv (z_var (i := 3) rfl (.int _)) z_int ⟨by decide, by decide⟩))) (z_add (z_pow z_int z_int ⟨by decide, by decide⟩) z_int) hp2) z_int ⟨by decide, by decide⟩) (z_var (i := 1) rfl (.int _)) hmp)) fun v H4 s4 d4 => ?_
      cases d4
      obtain ⟨r, er, hr⟩ := fin _ (Int.emod_nonneg _ (by omega)) (Int.emod_lt_of_pos (Int.fdiv ((st ^ (2 : Int).toNat + st.fdiv 7907) % (10 ^ (23 : Int).toNat + 117)) 10007) hmp)
      rw [er]
      exact q r _ hr (sx2.trans (.of (s3.trans s4))) ⟨a, b, z + 1, s4 _ _ (s3 _ _ e2), hb0, hb1, by omega, by omega⟩
abbrev s_law_low : Stmt := topS 68
abbrev N_law_low : List Str := ["_law_above", "_law_below", "_law_one", "_law_two", "_law_turn"]
theorem sc_law_low : FnScope N_law_low ["_law_above", "_law_below"] (defScope s_law_low) := ⟨rfl, rfl, rfl, by decide +kernel, rfl, by decide +kernel, by decide +kernel⟩
theorem b_law_low (T : Txt K mg) : Binds K (T.fd 49) ["_law_above", "_law_below"] [] := (T.F 49 _ rfl).binds (ps := ["_law_above", "_law_below"]) fun _ _ _ _ _ _ us hl => match us, hl with | [_, _], _ => rfl

theorem low_step {x y : Nat} (h : y ≤ x) (hy : 0 < y) : 2 * (y * (x % y)) ≤ x * y := by
  have h1 := Nat.mod_add_div x y
  have h2 := Nat.mod_lt x hy
  have h3 : 1 ≤ x / y := Nat.div_pos h hy
  have h4 : y ≤ y * (x / y) := Nat.le_mul_of_pos_right _ h3
  have h5 : 2 * (x % y) ≤ x := by omega
  have := Nat.mul_le_mul_left y h5
  rw [Nat.mul_comm x y]
  have e : 2 * (y * (x % y)) = y * (2 * (x % y)) := by rw [← Nat.mul_assoc, Nat.mul_comm 2 y, Nat.mul_assoc]
  omega
def PLow : List PyData → PyData → Prop := fun ds r => ∃ a b : Int, ds = [.int a, .int b] ∧ 0 < b ∧ b.natAbs < 2 ^ 8000 ∧ r = frD ((a : Rat) / b)
theorem ok_law_low (T : Txt K mg) : FnOk P w K mg base CX0 1 (T.fa 49) (T.fd 49) ["_law_above", "_law_below"] (spD K PLow) := by
  refine okD (T.F 49 _ rfl) sc_law_low (fun ds r h => ?_) (fun cdv A outer s H vs Q E ds r hr hv hp q => ?_)
  · obtain ⟨_, _, rfl, _⟩ := h; rfl
  · obtain ⟨a, b, rfl, hb, hb8, rfl⟩ := hp
    obtain ⟨u, v, rfl, du, dv⟩ := two_of hv
    cases du; cases dv
    refine ⟨_, (pss_cons (ps_set (i := 2) sc_law_low.nd rfl (Or.inl rfl) (pe_callB call_abs (by rfl) (T.n "abs") (by decide +kernel) (pa_cons (pv 0) pa_nil)))
      (pss_cons (ps_set (i := 3) sc_law_low.nd rfl (Or.inl rfl) (pv 1))
      (pss_cons (ps_for PassesOwn.never rfl (pi_range1 (by rfl) (T.n "range") (pa_cons pe_int pa_nil)) (pg_name (i := 4) sc_law_low.nd rfl (Or.inl rfl))
       (pss_cons (ps_if (pt_cmpR (op_eqK K hr.units) (pv 3) pe_int (nomark _))
        (pss_one ps_break)
        pss_nil)
       (pss_one (ps_par (i := 2) (j := 3) (by rfl) sc_law_low.nd rfl rfl (by decide) rfl rfl (pa_cons (pv 3) (pa_cons (pe_op op_mod (pe_callTy call_int1 (by rfl) (T.n "int") (by decide +kernel) (pa_cons (pv 2) pa_nil)) (pv 3)) pa_nil)) (by rfl)))))
      (pss_one (ps_ret (pe_tup (pa_cons (pe_op op_fdivX (pv 0) (pv 2)) (pa_cons (pe_op op_fdivX (pv 1) (pv 2)) pa_nil)))))))), ?_⟩
    refine s_set (K := K) (z_abs (z_var (i := 0) rfl (.int _))) fun x H1 s1 d1 => ?_
    cases d1
    refine s_set (K := K) (z_var (i := 1) rfl (.int _)) fun x H2 s2 d2 => ?_
    cases d2
    -- behind the loop
    have fin : ∀ (y4 : Option V) (H' : Hp), Same H H' → tRet (tTup (tCons (tOp (rI CDivX fun i j => .int (i.fdiv j)) (tVar 0) (tVar 2)) (tCons (tOp (rI CDivX fun i j => .int (i.fdiv j)) (tVar 1) (tVar 2)) tNil))) { nx := fun _ H' => Q .non H', rt := Q } [some (.int a), some (.int b), some (.int ((Nat.gcd a.natAbs b.natAbs : Nat) : Int)), some (.int 0), y4] H' := fun y4 H' s' => by
      have hne : b ≠ 0 := by omega
      have hd : dvs a b = ((Nat.gcd a.natAbs b.natAbs : Nat) : Int) := by unfold dvs; rw [if_neg (by omega)]
      have hg : CDivX a (dvs a b) ∧ CDivX b (dvs a b) := by
        have c : dvs a b ≠ 0 ∧ (dvs a b).natAbs.log2 < 9000 := ⟨dvs_ne hne, log2_lt (by decide) (Nat.lt_of_le_of_lt (by rw [dvs_abs]; exact Nat.gcd_le_right _ (Int.natAbs_pos.mpr hne)) (lt_pw hb8 (by decide)))⟩
        exact ⟨c, c⟩
      rw [← hd]
      obtain ⟨e1, e2⟩ := frac_pair a b hne
      refine s_ret (K := K) (d := frD ((a : Rat) / b)) ?_ fun v H3 s3 d => q v H3 (s'.trans s3) (Dn.anti s' d)
      unfold frD
      rw [← e1, ← e2]
      exact n_tup (an_cons (z_fdiv (z_var (i := 0) rfl (.int _)) (z_var (i := 2) rfl (.int _)) hg.1).en (an_cons (z_fdiv (z_var (i := 1) rfl (.int _)) (z_var (i := 2) rfl (.int _)) hg.2).en an_nil))
    refine s_forHS (K := K) (Hb := H) (n := 20000) (it := fun i => .int (i : Int)) (fun t σ' H' => ∃ (x y : Nat) (y4 : Option V), σ' = [some (.int a), some (.int b), some (.int (x : Int)), some (.int (y : Int)), y4] ∧ Same H H' ∧ Nat.gcd x y = Nat.gcd a.natAbs b.natAbs ∧ (t = 0 → y = b.natAbs) ∧ (1 ≤ t → y ≤ x ∧ 0 < x ∧ x * y * 2 ^ (t - 1) < 2 ^ 16000))
      (srcH_big (ap_one (p_int (i := 20000))) (by decide)) ⟨a.natAbs, b.natAbs, none, ?_, s1.trans s2, rfl, fun _ => rfl, fun h => by omega⟩ (fun i σ' H' p => ?_) (fun t σ' H' ht p x4 dx4 => ?_) (fun σ' H' p => ?_)
    · rw [← iab_abs, show ((b.natAbs : Nat) : Int) = b by omega]; rfl
    · obtain ⟨_, _, _, _, s', _⟩ := p; exact s'
    · obtain ⟨x, y, y4, rfl, s', hg, h0, h1⟩ := p
      cases dx4
      refine s_if (b := decide ((y : Int) = 0)) (t_val (K := K) (z_eqI (z_var (i := 3) rfl (.int _)) z_int)) (fun hb0 H3 s3 => ?_) (fun hb0 H3 s3 => ?_)
      · have hy : y = 0 := by have := of_decide_eq_true hb0; omega
        subst hy
        rw [Nat.gcd_zero_right] at hg
        subst hg
        exact fin _ H3 (s'.trans s3)
      · have hy : 0 < y := by have := of_decide_eq_false hb0; omega
        unfold tNext
        dsimp only
        refine (?_ : tPar _ _ _ _ _ _)
        refine (a_cons (K := K) (z_var (i := 3) rfl (.int _)) (a_one (z_mod (z_intI (z_var (i := 2) rfl (.int _))) (z_var (i := 3) rfl (.int _)) (by omega)))) H3 (Same.refl _) _ fun vs H4 s4 dv2 => ?_
        obtain ⟨p1, p2, rfl, d1, d2⟩ := two_of dv2
        cases d1; cases d2
        refine ⟨_, _, rfl, ?_⟩
        refine ⟨y, x % y, _, rfl, (s'.trans s3).trans s4, ?_, fun h => by omega, fun _ => ⟨Nat.le_of_lt (Nat.mod_lt _ hy), hy, ?_⟩⟩
        · rw [← hg, Nat.gcd_comm y, ← Nat.gcd_rec, Nat.gcd_comm]
        · rw [Nat.add_sub_cancel]
          by_cases ht0 : t = 0
          · subst ht0
            have hyb := h0 rfl
            have hm := Nat.mod_lt x hy
            rw [Nat.pow_zero, Nat.mul_one]
            have : y * (x % y) < 2 ^ 8000 * 2 ^ 8000 := Nat.mul_lt_mul'' (by omega) (by omega)
            rw [← Nat.pow_add] at this
            exact this
          · obtain ⟨hle, hx, hlt⟩ := h1 (by omega)
            have hst := low_step hle hy
            obtain ⟨t', rfl⟩ : ∃ t', t = t' + 1 := ⟨t - 1, by omega⟩
            rw [Nat.add_sub_cancel] at hlt
            refine Nat.lt_of_le_of_lt ?_ hlt
            rw [Nat.pow_succ, Nat.mul_comm (2 ^ t') 2, ← Nat.mul_assoc]
            refine Nat.mul_le_mul_right _ ?_
            rw [Nat.mul_comm _ 2]; exact hst
    · obtain ⟨x, y, y4, rfl, s', hg, h0, h1⟩ := p
      obtain ⟨hle, hx, hlt⟩ := h1 (by decide)
      have hy : y = 0 := by
        by_cases c : y = 0
        · exact c
        · exfalso
          have h2 : 1 ≤ x * y := Nat.mul_pos hx (by omega)
          have h3 := Nat.mul_le_mul_right (2 ^ (20000 - 1)) h2
          rw [Nat.one_mul] at h3
          have h4 : 2 ^ 16000 ≤ 2 ^ (20000 - 1) := Nat.pow_le_pow_right (by decide) (by decide)
          exact absurd (Nat.lt_of_le_of_lt (Nat.le_trans h4 h3) hlt) (Nat.lt_irrefl _)
      subst hy
      rw [Nat.gcd_zero_right] at hg
      subst hg
      exact fin _ H' s'
abbrev s_law_add : Stmt := topS 70
abbrev N_law_add : List Str := ["_law_one", "_law_other"]
theorem sc_law_add : FnScope N_law_add ["_law_one", "_law_other"] (defScope s_law_add) := ⟨rfl, rfl, rfl, by decide +kernel, rfl, by decide +kernel, by decide +kernel⟩
theorem b_law_add (T : Txt K mg) : Binds K (T.fd 51) ["_law_one", "_law_other"] [] := (T.F 51 _ rfl).binds (ps := ["_law_one", "_law_other"]) fun _ _ _ _ _ _ us hl => match us, hl with | [_, _], _ => rfl

def P2L (op : Rat → Rat → Rat) : List PyData → PyData → Prop := fun ds r => ∃ (p q : Rat) (a b : Nat), ds = [frD p, frD q] ∧ Bd a p ∧ Bd b q ∧ a + b ≤ 7000 ∧ r = frD (op p q)
theorem den_lt8 {p q : Rat} {a b : Nat} (hp : Bd a p) (hq : Bd b q) (h : a + b ≤ 7000) : (((p.den : Int) * (q.den : Int) : Int)).natAbs < 2 ^ 8000 := by
  rw [Int.natAbs_mul, Int.natAbs_natCast, Int.natAbs_natCast]
  exact lt_pw (lt_mul hp.2 hq.2) (by omega)
theorem den_pos2 {p q : Rat} : 0 < ((p.den : Int) * (q.den : Int) : Int) := Int.mul_pos (by have := p.den_pos; omega) (by have := q.den_pos; omega)
theorem ok_law_add (T : Txt K mg) : FnOk P w K mg base CX0 2 (T.fa 51) (T.fd 51) ["_law_one", "_law_other"] (spD K (P2L fun p q => p + q)) := by
  refine okD (T.F 51 _ rfl) sc_law_add (fun ds r h => ?_) (fun cdv A outer s H vs Q E ds r hr hv hp q => ?_)
  · obtain ⟨a, b, _, _, rfl, _⟩ := h; rfl
  · obtain ⟨x, y, a, b, rfl, hx, hy, hab, rfl⟩ := hp
    obtain ⟨u, v, rfl, du, dv⟩ := two_of hv
    refine ⟨_, (pss_one (ps_ret (pe_call (ok_law_low T) (hr.mono (by decide)) (by rfl) (T.g 49 _ rfl) (T.F 49 _ rfl).kp (b_law_low T) .nil pass0 (pa_cons (pe_op op_add (pe_op op_mulX (pe_ix (ix_seqK K) (pv 0) pe_int (fun _ _ => rfl)) (pe_ix (ix_seqK K) (pv 1) pe_int (fun _ _ => rfl))) (pe_op op_mulX (pe_ix (ix_seqK K) (pv 1) pe_int (fun _ _ => rfl)) (pe_ix (ix_seqK K) (pv 0) pe_int (fun _ _ => rfl)))) (pa_cons (pe_op op_mulX (pe_ix (ix_seqK K) (pv 0) pe_int (fun _ _ => rfl)) (pe_ix (ix_seqK K) (pv 1) pe_int (fun _ _ => rfl))) pa_nil))))), ?_⟩
    have zx : Ez K (tVar 0) (start N_law_add [u, v]) H (frD x) := z_var (i := 0) rfl du
    have zy : Ez K (tVar 1) (start N_law_add [u, v]) H (frD y) := z_var (i := 1) rfl dv
    refine s_ret (d := frD (x + y)) (n_call (a_cons (z_add (z_mul (z_num zx) (z_den zy) (mulok hx.1 (nat_abs hy.2) (by omega))) (z_mul (z_num zy) (z_den zx) (mulok hy.1 (nat_abs hx.2) (by omega)))) (a_one (z_mul (z_den zx) (z_den zy) (mulok (nat_abs hx.2) (nat_abs hy.2) (by omega))))) ⟨_, _, rfl, den_pos2, den_lt8 hx hy hab, ?_⟩) q
    rw [q_add]
abbrev s_law_sub : Stmt := topS 71
abbrev N_law_sub : List Str := ["_law_one", "_law_other"]
theorem sc_law_sub : FnScope N_law_sub ["_law_one", "_law_other"] (defScope s_law_sub) := ⟨rfl, rfl, rfl, by decide +kernel, rfl, by decide +kernel, by decide +kernel⟩
theorem b_law_sub (T : Txt K mg) : Binds K (T.fd 52) ["_law_one", "_law_other"] [] := (T.F 52 _ rfl).binds (ps := ["_law_one", "_law_other"]) fun _ _ _ _ _ _ us hl => match us, hl with | [_, _], _ => rfl

theorem ok_law_sub (T : Txt K mg) : FnOk P w K mg base CX0 2 (T.fa 52) (T.fd 52) ["_law_one", "_law_other"] (spD K (P2L fun p q => p - q)) := by
  refine okD (T.F 52 _ rfl) sc_law_sub (fun ds r h => ?_) (fun cdv A outer s H vs Q E ds r hr hv hp q => ?_)
  · obtain ⟨a, b, _, _, rfl, _⟩ := h; rfl
  · obtain ⟨x, y, a, b, rfl, hx, hy, hab, rfl⟩ := hp
    obtain ⟨u, v, rfl, du, dv⟩ := two_of hv
    refine ⟨_, (pss_one (ps_ret (pe_call (ok_law_low T) (hr.mono (by decide)) (by rfl) (T.g 49 _ rfl) (T.F 49 _ rfl).kp (b_law_low T) .nil pass0 (pa_cons (pe_op op_sub (pe_op op_mulX (pe_ix (ix_seqK K) (pv 0) pe_int (fun _ _ => rfl)) (pe_ix (ix_seqK K) (pv 1) pe_int (fun _ _ => rfl))) (pe_op op_mulX (pe_ix (ix_seqK K) (pv 1) pe_int (fun _ _ => rfl)) (pe_ix (ix_seqK K) (pv 0) pe_int (fun _ _ => rfl)))) (pa_cons (pe_op op_mulX (pe_ix (ix_seqK K) (pv 0) pe_int (fun _ _ => rfl)) (pe_ix (ix_seqK K) (pv 1) pe_int (fun _ _ => rfl))) pa_nil))))), ?_⟩
    have zx : Ez K (tVar 0) (start N_law_sub [u, v]) H (frD x) := z_var (i := 0) rfl du
    have zy : Ez K (tVar 1) (start N_law_sub [u, v]) H (frD y) := z_var (i := 1) rfl dv
    refine s_ret (d := frD (x - y)) (n_call (a_cons (z_sub (z_mul (z_num zx) (z_den zy) (mulok hx.1 (nat_abs hy.2) (by omega))) (z_mul (z_num zy) (z_den zx) (mulok hy.1 (nat_abs hx.2) (by omega)))) (a_one (z_mul (z_den zx) (z_den zy) (mulok (nat_abs hx.2) (nat_abs hy.2) (by omega))))) ⟨_, _, rfl, den_pos2, den_lt8 hx hy hab, ?_⟩) q
    rw [q_sub]
abbrev s_law_at_most : Stmt := topS 75
abbrev N_law_at_most : List Str := ["_law_one", "_law_other"]
theorem sc_law_at_most : FnScope N_law_at_most ["_law_one", "_law_other"] (defScope s_law_at_most) := ⟨rfl, rfl, rfl, by decide +kernel, rfl, by decide +kernel, by decide +kernel⟩
theorem b_law_at_most (T : Txt K mg) : Binds K (T.fd 55) ["_law_one", "_law_other"] [] := (T.F 55 _ rfl).binds (ps := ["_law_one", "_law_other"]) fun _ _ _ _ _ _ us hl => match us, hl with | [_, _], _ => rfl

theorem ok_law_at_most (T : Txt K mg) : FnOk P w K mg base CX0 1 (T.fa 55) (T.fd 55) ["_law_one", "_law_other"] (spD K fun ds r => ∃ (p q : Rat) (a b : Nat), ds = [frD p, frD q] ∧ Bd a p ∧ Bd b q ∧ a + b ≤ 7000 ∧ r = .bool (decide (p ≤ q))) := by
  refine okD (T.F 55 _ rfl) sc_law_at_most (fun ds r h => ?_) (fun cdv A outer s H vs Q E ds r hr hv hp q => ?_)
  · obtain ⟨a, b, _, _, rfl, _⟩ := h; rfl
  · obtain ⟨x, y, a, b, rfl, hx, hy, hab, rfl⟩ := hp
    obtain ⟨u, v, rfl, du, dv⟩ := two_of hv
    refine ⟨_, (pss_one (ps_ret (pe_cmpR op_le (pe_op op_mulX (pe_ix (ix_seqK K) (pv 0) pe_int (fun _ _ => rfl)) (pe_ix (ix_seqK K) (pv 1) pe_int (fun _ _ => rfl))) (pe_op op_mulX (pe_ix (ix_seqK K) (pv 1) pe_int (fun _ _ => rfl)) (pe_ix (ix_seqK K) (pv 0) pe_int (fun _ _ => rfl))) (nomark _)))), ?_⟩
    have zx : Ez K (tVar 0) (start N_law_at_most [u, v]) H (frD x) := z_var (i := 0) rfl du
    have zy : Ez K (tVar 1) (start N_law_at_most [u, v]) H (frD y) := z_var (i := 1) rfl dv
    have e : decide (x ≤ y) = decide (x.num * (y.den : Int) ≤ y.num * (x.den : Int)) := decide_eq_decide.mpr (Rat.le_iff x y)
    rw [e] at q
    exact s_ret (K := K) (Ez.en (z_cmp (p := fun i j => decide (i ≤ j)) (z_mul (z_num zx) (z_den zy) (mulok hx.1 (nat_abs hy.2) (by omega))) (z_mul (z_num zy) (z_den zx) (mulok hy.1 (nat_abs hx.2) (by omega))))) q
end
end Ck
end

section
set_option Elab.async false
set_option linter.all false
set_option maxRecDepth 100000
set_option maxHeartbeats 4000000
/-! distances, what comes nearer. -/
namespace Ck
open PySem PySem.Spec PyProof.Rows L2
theorem num_neg' {q : Rat} : q.num < 0 ↔ q < 0 := by
  have h := Rat.num_nonneg (q := q)
  constructor
  · intro z; exact Rat.not_le.mp fun c => by have := h.mpr c; omega
  · intro z
    have : ¬ 0 ≤ q.num := fun c => absurd (h.mp c) (Rat.not_le.mpr z)
    omega
theorem ab_numden (q : Rat) : (ab q).num = iab q.num ∧ (ab q).den = q.den := by
  unfold ab iab
  by_cases h : q < 0
  · have hn : q.num < 0 := num_neg'.mpr h
    rw [if_pos h, if_pos hn]; exact ⟨rfl, rfl⟩
  · have hn : ¬ q.num < 0 := fun z => h (num_neg'.mp z)
    rw [if_neg h, if_neg hn]; exact ⟨rfl, rfl⟩
theorem fb_ab {D m : Nat} {q : Rat} (h : Fb D m q) : Fb D m (ab q) := by
  obtain ⟨e1, e2⟩ := ab_numden q
  refine ⟨by rw [e2]; exact h.1, ?_⟩
  rw [e1, e2]
  have := h.2
  unfold iab
  split <;> omega
section
variable {P : Program} {w : World} {K : Fg} {mg : Str → Option Value} {base : Heap}
theorem z_absF {σ : L2.St} {H : Hp} {ta : TE} {q : Rat} (ha : Ez K ta σ H (frD q)) : Ez K (tTup (tCons (tCB (fun xs H Q => ∃ i, xs = [.int i] ∧ Q (.int (if i < 0 then -i else i)) H) (tCons (tOp (rIx K) ta (tC (.int 0))) tNil)) (tCons (tOp (rIx K) ta (tC (.int 1))) tNil))) σ H (frD (ab q)) := by
  obtain ⟨e1, e2⟩ := ab_numden q
  unfold frD
  rw [e1, e2]
  exact z_tup (a_cons (z_abs (z_num ha)) (a_one (z_den ha)))
abbrev s_law_distances : Stmt := topS 74
abbrev N_law_distances : List Str := ["_law_one", "_law_other", "_law_made", "_law_cask", "_law_total", "_law_i", "_law_gap"]
theorem sc_law_distances : FnScope N_law_distances ["_law_one", "_law_other"] (defScope s_law_distances) := ⟨rfl, rfl, rfl, by decide +kernel, rfl, by decide +kernel, by decide +kernel⟩
theorem b_law_distances (T : Txt K mg) : Binds K (T.fd 54) ["_law_one", "_law_other"] [] := (T.F 54 _ rfl).binds (ps := ["_law_one", "_law_other"]) fun _ _ _ _ _ _ us hl => match us, hl with | [_, _], _ => rfl

def PDis : List PyData → PyData → Prop := fun ds r => ∃ (n : Nat) (A B : Mx) (D : Nat), ds = [tabD n A, tabD n B] ∧ 1 ≤ n ∧ n ≤ 5 ∧ 0 < D ∧ D < 2 ^ 1500 ∧ (∀ i j, i < n → j < n → Fb D 1 (A i j) ∧ Fb D 1 (B i j)) ∧ r = rowL n fun j => nrm n (fun i j => A i j - B i j) j
theorem ok_law_distances (T : Txt K mg) : FnOk P w K mg base CX0 3 (T.fa 54) (T.fd 54) ["_law_one", "_law_other"] (spD K PDis) := by
  refine okD (T.F 54 _ rfl) sc_law_distances (fun ds r h => ?_) (fun cdv A0 outer s H vs Q E ds r hr hv hp q => ?_)
  · obtain ⟨_, _, _, _, rfl, _⟩ := h; rfl
  · obtain ⟨n, A, B, D, rfl, h1, h5, hD, hDs, hf, rfl⟩ := hp
    obtain ⟨u, v, rfl, du, dv⟩ := two_of hv
    refine ⟨_, (pss_cons (ps_set (i := 2) sc_law_distances.nd rfl (Or.inl rfl) (pe_lst pa_nil))
      (pss_cons (ps_for PassesOwn.never rfl (pi_range1 (by rfl) (T.n "range") (pa_cons (pe_callB (call_lenK K) (by rfl) (T.n "len") PySem.boot_len (pa_cons (pv 0) pa_nil)) pa_nil)) (pg_name (i := 3) sc_law_distances.nd rfl (Or.inl rfl))
       (pss_cons (ps_set (i := 4) sc_law_distances.nd rfl (Or.inl rfl) (pe_tup (pa_cons pe_int (pa_cons pe_int pa_nil))))
       (pss_cons (ps_for PassesOwn.never rfl (pi_range1 (by rfl) (T.n "range") (pa_cons (pe_callB (call_lenK K) (by rfl) (T.n "len") PySem.boot_len (pa_cons (pv 0) pa_nil)) pa_nil)) (pg_name (i := 5) sc_law_distances.nd rfl (Or.inl rfl))
        (pss_cons (ps_set (i := 6) sc_law_distances.nd rfl (Or.inl rfl) (pe_call (ok_law_sub T) (hr.mono (by decide)) (by rfl) (T.g 52 _ rfl) (T.F 52 _ rfl).kp (b_law_sub T) .nil pass0 (pa_cons (pe_ix (ix_seqK K) (pe_ix (ix_seqK K) (pv 0) (pv 5) (fun _ _ => rfl)) (pv 3) (fun _ _ => rfl)) (pa_cons (pe_ix (ix_seqK K) (pe_ix (ix_seqK K) (pv 1) (pv 5) (fun _ _ => rfl)) (pv 3) (fun _ _ => rfl)) pa_nil))))
        (pss_one (ps_set (i := 4) sc_law_distances.nd rfl (Or.inl rfl) (pe_call (ok_law_add T) (hr.mono (by decide)) (by rfl) (T.g 51 _ rfl) (T.F 51 _ rfl).kp (b_law_add T) .nil pass0 (pa_cons (pv 4) (pa_cons (pe_tup (pa_cons (pe_callB call_abs (by rfl) (T.n "abs") (by decide +kernel) (pa_cons (pe_ix (ix_seqK K) (pv 6) pe_int (fun _ _ => rfl)) pa_nil)) (pa_cons (pe_ix (ix_seqK K) (pv 6) pe_int (fun _ _ => rfl)) pa_nil))) pa_nil)))))))
       (pss_one (ps_expr (pe_appK K (pv 2) (pa_cons (pv 4) pa_nil)))))))
      (pss_one (ps_ret (pv 2))))), ?_⟩
    have bdm : ∀ {m : Nat} {q : Rat}, Fb D m q → m ≤ 16 → Bd 1504 q := fun h hm => (h.mono (Nat.dvd_refl _) hm).bd hD (by decide) (by
      have : 16 * D < 2 ^ 4 * 2 ^ 1500 := by omega
      rw [← Nat.pow_add] at this
      exact this)
    refine s_setnil fun ma nm => ?_
    have s0 := same_new (o := .lst []) nm
    have hl : ∀ {σ : L2.St} {H' : Hp}, σ[0]? = some (some u) → Same H H' → Ap K (tCons (tCB (rLenX K) (tCons (tVar 0) tNil)) tNil) σ H' [.int (n : Int)] := fun e s => by
      have h := p_lenT (K := K) (p_var e (L2.Dp.mono s du))
      rw [tab_len] at h
      exact ap_one h
    refine s_forHS (K := K) (Hb := H) (n := n) (it := fun i => .int (i : Int)) (fun j σ' H' => ∃ y3 y4 y5 y6 : Option V, σ' = [some u, some v, some (.ref ma), y3, y4, y5, y6] ∧ LcInv K H ma (tab j fun j => frD (nrm n (fun i j => A i j - B i j) j)) H') (srcH_r1 (hl rfl s0) (by omega)) ⟨none, none, none, none, rfl, LcF.start nm⟩ (fun i σ' H' p => ?_) (fun j σ' H' hj p x dx => ?_) (fun σ' H' p => ?_)
    · obtain ⟨_, _, _, _, _, I⟩ := p; exact I.same
    · obtain ⟨y3, y4, y5, y6, rfl, I⟩ := p
      cases dx
      refine s_set (K := K) (d := frD (sm (rg 0) fun i => ab (A i j - B i j))) (z_tup (a_cons z_int (a_one z_int))) fun x4 H4 s4 d4 => ?_
      have I4 := LcF.same' I s4
      refine s_forHS (K := K) (Hb := H) (n := n) (it := fun i => .int (i : Int)) (fun i σ' H' => ∃ (x4 : V) (y5 y6 : Option V), σ' = [some u, some v, some (.ref ma), some (.int (j : Int)), some x4, y5, y6] ∧ Same H4 H' ∧ Dp K H' x4 (frD (sm (rg i) fun i => ab (A i j - B i j)))) (srcH_r1 (hl rfl I4.same) (by omega)) ⟨x4, y5, y6, rfl, Same.refl _, d4⟩ (fun i σ' H' p => ?_) (fun i σ' H' hi p x dx => ?_) (fun σ' H' p => ?_)
      · obtain ⟨_, _, _, _, s', _⟩ := p; exact I4.same.trans s'
      · obtain ⟨x4, y5, y6, rfl, s', d4⟩ := p
        cases dx
        have sH := I4.same.trans s'
        obtain ⟨fA, fB⟩ := hf i j hi hj
        have fgap := Fb.sub hD fA fB
        refine s_set (K := K) (d := frD (A i j - B i j)) (z_call (a_cons (z_rowT (i := j) (z_matT (i := i) (z_var (i := 0) rfl (L2.Dp.mono sH du)) (z_var (i := 5) rfl (.int _)) hi) (z_var (i := 3) rfl (.int _)) hj) (a_one (z_rowT (i := j) (z_matT (i := i) (z_var (i := 1) rfl (L2.Dp.mono sH dv)) (z_var (i := 5) rfl (.int _)) hi) (z_var (i := 3) rfl (.int _)) hj))) ⟨_, _, 1504, 1504, rfl, bdm fA (by decide), bdm fB (by decide), by decide, rfl⟩) fun x6 H6 s6 d6 => ?_
        have ft : Fb D (i * 2) (sm (rg i) fun i => ab (A i j - B i j)) := Fb.sum hD i fun k hk => fb_ab (Fb.sub hD (hf k j (by omega) hj).1 (hf k j (by omega) hj).2)
        refine s_set1 (K := K) (d := frD (sm (rg (i + 1)) fun i => ab (A i j - B i j))) (z_call (a_cons (z_var (i := 4) rfl (L2.Dp.mono s6 d4)) (a_one (z_absF (z_var (i := 6) rfl d6)))) ⟨_, _, 1504, 1504, rfl, bdm ft (by omega), bdm (fb_ab fgap) (by decide), by decide, ?_⟩) fun x7 H7 s7 d7 => ⟨_, _, _, rfl, (s'.trans s6).trans s7, d7⟩
        rw [sm_range_succ]
      · obtain ⟨x4, y5, y6, rfl, s', d4⟩ := p
        have I5 := LcF.same' I4 s'
        refine s_app (K := K) (m := 2) (Hb := H) rfl nm I5 (by rw [tab_len]; omega) (d := frD (nrm n (fun i j => A i j - B i j) j)) (Ez.en (z_var (i := 4) rfl d4)) fun H8 I8 _ => ⟨_, _, _, _, rfl, by rw [tab_succ]; exact I8⟩
    · obtain ⟨y3, y4, y5, y6, rfl, I⟩ := p
      exact ⟨.ref ma, rfl, q _ _ I.same (LcF.dn nm I)⟩
abbrev s_law_nearer : Stmt := topS 76
abbrev N_law_nearer : List Str := ["_law_table_here", "_law_found", "_law_rows", "_law_state", "_law_k", "_law_j"]
theorem sc_law_nearer : FnScope N_law_nearer ["_law_table_here", "_law_found", "_law_rows"] (defScope s_law_nearer) := ⟨rfl, rfl, rfl, by decide +kernel, rfl, by decide +kernel, by decide +kernel⟩
theorem b_law_nearer (T : Txt K mg) : Binds K (T.fd 56) ["_law_table_here", "_law_found", "_law_rows"] [] := (T.F 56 _ rfl).binds (ps := ["_law_table_here", "_law_found", "_law_rows"]) fun _ _ _ _ _ _ us hl => match us, hl with | [_, _, _], _ => rfl

def PNer : List PyData → PyData → Prop := fun ds r => ∃ (n : Nat) (A : Mx) (D p : Nat) (d : Nat → Nat → Rat), ds = [tabD n A, .tuple (tab p fun k => tabD n (Lm n A (En0 n (pw n A p)) k)), .list (tab 25 fun k => rowL n (d k))] ∧ S6 n A D ∧ PerT n A p ∧
  (∀ k j, k < 25 → j < n → Bd 1600 (d k j)) ∧ (∀ k j, k + 1 < 25 → j < n → d (k + 1) j ≤ d k j) ∧ r = .bool true
theorem ok_law_nearer (T : Txt K mg) : FnOk P w K mg base CX0 9 (T.fa 56) (T.fd 56) ["_law_table_here", "_law_found", "_law_rows"] (spD K PNer) := by
  refine okD (T.F 56 _ rfl) sc_law_nearer (fun ds r h => ?_) (fun cdv A0 outer s H vs Q E ds r hr hv hp q => ?_)
  · obtain ⟨_, _, _, _, _, rfl, _⟩ := h; rfl
  · obtain ⟨n, A, D, p, d, rfl, S, hp, hb, hd, rfl⟩ := hp
    obtain ⟨u, v, w', rfl, du, dv, dw⟩ := three_of hv
    refine ⟨_, (pss_cons (ps_set (i := 3) sc_law_nearer.nd rfl (Or.inl rfl) (pe_ix (ix_seqK K) (pv 1) pe_int (fun _ _ => rfl)))
      (pss_cons (ps_for PassesOwn.never rfl (pi_range1 (by rfl) (T.n "range") (pa_cons (pe_callB (call_lenK K) (by rfl) (T.n "len") PySem.boot_len (pa_cons (pv 1) pa_nil)) pa_nil)) (pg_name (i := 4) sc_law_nearer.nd rfl (Or.inr rfl))
       (pss_one (ps_if (pt_cmpR (op_neK K hr.units) (pe_call (ok_behind T) (hr.mono (by decide)) (by rfl) (T.g 28 _ rfl) (T.F 28 _ rfl).kp (b_behind T) .nil pass0 (pa_cons (pe_ix (ix_seqK K) (pv 1) (pv 4) (fun _ _ => rfl)) (pa_cons (pv 0) pa_nil))) (pe_ix (ix_seqK K) (pv 1) (pe_op op_mod (pe_callTy call_int1 (by rfl) (T.n "int") (by decide +kernel) (pa_cons (pe_op op_add (pv 4) pe_int) pa_nil)) (pe_callB (call_lenK K) (by rfl) (T.n "len") PySem.boot_len (pa_cons (pv 1) pa_nil))) (fun _ _ => rfl)) (nomark _))
        (pss_one (ps_ret pe_bl))
        pss_nil)))
      (pss_cons (ps_for PassesOwn.never rfl (pi_range2 (by rfl) (T.n "range") (pa_cons pe_int (pa_cons (pe_callB (call_lenK K) (by rfl) (T.n "len") PySem.boot_len (pa_cons (pv 2) pa_nil)) pa_nil))) (pg_name (i := 4) sc_law_nearer.nd rfl (Or.inr rfl))
       (pss_one (ps_if (pt_not (pt_val (pe_callB (cr_allK K rfl) (by rfl) (T.n "all") (by decide +kernel) (pa_cons (pe_lc (own := [("_law_j", 5)])  rfl sc_law_nearer.nd (pi_range1 (by rfl) (T.n "range") (pa_cons (pe_callB (call_lenK K) (by rfl) (T.n "len") PySem.boot_len (pa_cons (pe_ix (ix_seqK K) (pv 2) (pv 4) (fun _ _ => rfl)) pa_nil)) pa_nil)) (blkOk_by (N := N_law_nearer) (sc := defScope s_law_nearer) (by decide +kernel)) (fun _ _ _ _ _ => (pg_name (i := 5) sc_law_nearer.nd rfl (Or.inl rfl))) (fun _ _ _ _ _ => pts_nil) (fun _ _ _ _ _ => (pe_call (ok_law_at_most T) (hr.mono (by decide)) (by rfl) (T.g 55 _ rfl) (T.F 55 _ rfl).kp (b_law_at_most T) .nil pass0 (pa_cons (pe_ix (ix_seqK K) (pe_ix (ix_seqK K) (pv 2) (pv 4) (fun _ _ => rfl)) (pv 5) (fun _ _ => rfl)) (pa_cons (pe_ix (ix_seqK K) (pe_ix (ix_seqK K) (pv 2) (pe_op op_sub (pv 4) pe_int) (fun _ _ => rfl)) (pv 5) (fun _ _ => rfl)) pa_nil))))) pa_nil))))
        (pss_one (ps_ret pe_bl))
        pss_nil)))
      (pss_one (ps_ret (pe_cmpR (op_eqK K hr.units) (pe_call (ok_behind T) (hr.mono (by decide)) (by rfl) (T.g 28 _ rfl) (T.F 28 _ rfl).kp (b_behind T) .nil pass0 (pa_cons (pv 3) (pa_cons (pv 3) pa_nil))) (pv 3) (nomark _))))))), ?_⟩
    have tb := S.tb
    have h5 := tb.n5
    obtain ⟨p1, p6, _⟩ := hp.bds tb.tab h5
    have hlm := fun k (hk : k ≤ 6) => S.lm (p := p) p6 hk
    have hab : n * (3 + 826 + 1) + 1 ≤ 8990 := by
      have := Nat.mul_le_mul_right (3 + 826 + 1) h5
      omega
    refine s_set (K := K) (d := tabD n (Lm n A (En0 n (pw n A p)) 0)) (z_ixT (i := 0) (z_var (i := 1) rfl dv) z_int (tab_at (by omega))) fun x3 H1 s1 d3 => ?_
    have hl : ∀ {σ : L2.St} {H' : Hp}, σ[1]? = some (some v) → Same H H' → Ap K (tCons (tCB (rLenX K) (tCons (tVar 1) tNil)) tNil) σ H' [.int (p : Int)] := fun e s => by
      have h := p_lenT (K := K) (p_var e (L2.Dp.mono s dv))
      rw [tab_len] at h
      exact ap_one h
    refine s_forHS (K := K) (Hb := H1) (n := p) (it := fun i => .int (i : Int)) (fun k σ' H' => ∃ y4 : Option V, σ' = [some u, some v, some w', some x3, y4, none] ∧ Same H1 H') (srcH_r1 (hl rfl s1) (by omega)) ⟨none, rfl, Same.refl _⟩ (fun i σ' H' p => ?_) (fun k σ' H' hk p x dx => ?_) (fun σ' H' p => ?_)
    · obtain ⟨_, _, s'⟩ := p; exact s'
    · obtain ⟨y4, rfl, s'⟩ := p
      cases dx
      have dv' := L2.Dp.mono (s1.trans s') dv
      refine s_pass1 ?_ fun H2 s2 => ⟨_, rfl, s'.trans s2⟩
      obtain ⟨tk, bk⟩ := hlm k (by omega)
      have zl : Ez K (tCB (rLenX K) (tCons (tVar 1) tNil)) [some u, some v, some w', some x3, some (.int (k : Int)), none] H' (.int (p : Int)) := by
        have h := z_lenT (K := K) (z_var (σ := [some u, some v, some w', some x3, some (.int (k : Int)), none]) (i := 1) rfl dv')
        rw [tab_len] at h; exact h
      have zi : Ez K (tOp (rI (fun _ j => 0 < j) fun i j => .int (i % j)) (tCB (fun xs H Q => (∃ i, xs = [.int i] ∧ Q (.int i) H) ∨ ∃ k, xs = [.bl k] ∧ Q (.int (if k = true then 1 else 0)) H) (tCons (tOp (rI0 fun i j => .int (i + j)) (tVar 4) (tC (.int 1))) tNil)) (tCB (rLenX K) (tCons (tVar 1) tNil))) [some u, some v, some w', some x3, some (.int (k : Int)), none] H' (.int (((k + 1) % p : Nat) : Int)) := by
        rw [Int.natCast_emod, Int.natCast_add]
        exact z_mod (z_intI (z_add (z_var (i := 4) rfl (.int _)) z_int)) zl (by omega)
      have h := z_neD (K := K) (z_call (tr := tCons (tOp (rIx K) (tVar 1) (tVar 4)) (tCons (tVar 0) tNil)) (E := E0) (P := PBeh) (σ := [some u, some v, some w', some x3, some (.int (k : Int)), none]) (a_cons (z_ixT (i := k) (z_var (i := 1) rfl dv') (z_var (i := 4) rfl (.int _)) (tab_at hk)) (a_one (z_var (i := 0) rfl (L2.Dp.mono (s1.trans s') du)))) ⟨n, _, A, 826, 3, rfl, tk, tb, bk, S.bd, hab, rfl⟩) (z_ixT (i := (k + 1) % p) (z_var (i := 1) rfl dv') zi (tab_at (Nat.mod_lt _ (by omega)))) shp_matT.ok shp_matT.ok
      have e : tabD n (mul n A (Lm n A (En0 n (pw n A p)) k)) = tabD n (Lm n A (En0 n (pw n A p)) ((k + 1) % p)) := matT_congr fun i j hi hj => Lm_next tb.tab p1 hk i j hi hj
      rw [e, eqv_self shp_matT] at h
      exact t_val h
    · obtain ⟨y4, rfl, s'⟩ := p
      have s1' := s1.trans s'
      have dw' := L2.Dp.mono s1' dw
      refine s_forHS (K := K) (Hb := H1) (n := 24) (it := fun i => .int (1 + (i : Nat))) (fun k σ' H' => ∃ y4 : Option V, σ' = [some u, some v, some w', some x3, y4, none] ∧ Same H1 H') (srcH_r2 (ap_cons p_int (ap_one ?_)) (by omega) (by omega)) ⟨y4, rfl, s'⟩ (fun i σ' H' p => ?_) (fun k σ' H' hk p x dx => ?_) (fun σ' H' p => ?_)
      · have h := p_lenL (K := K) (σ := [some u, some v, some w', some x3, y4, none]) (p_var (i := 2) rfl dw')
        rw [tab_len] at h
        exact h
      · obtain ⟨_, _, s'⟩ := p; exact s'
      · obtain ⟨y4, rfl, s2⟩ := p
        cases dx
        have dw2 := L2.Dp.mono (s1.trans s2) dw
        rw [show (1 : Int) + (k : Nat) = ((k + 1 : Nat) : Int) by omega]
        refine s_pass1 (t_not (b := true) (t_val (K := K) (z_allT (n := n) (p := fun j => decide (d (k + 1) j ≤ d k j)) (En.ez ?_) fun j hj => decide_eq_true (hd k j (by omega) hj)))) fun H2 s3 => ⟨_, rfl, s2.trans s3⟩
        have hl2 := p_lenL (K := K) (σ := [some u, some v, some w', some x3, some (.int ((k + 1 : Nat) : Int)), none]) (p_ixL (i := k + 1) (p_var (i := 2) rfl dw2) (p_var (i := 4) rfl (.int _)) (tab_at (show k + 1 < 25 by omega)))
        rw [tab_len] at hl2
        refine n_lcA (src_r1 (ap_one hl2) (by omega)).g (by omega) fun j hj z H3 s3 dz => ?_
        cases dz
        have zk : Ez K (tOp (rI0 fun i j => .int (i - j)) (tVar 4) (tC (.int 1))) [some u, some v, some w', some x3, some (.int ((k + 1 : Nat) : Int)), some (.int (j : Int))] H3 (.int (k : Int)) := by
          have h := z_sub (K := K) (z_var (σ := [some u, some v, some w', some x3, some (.int ((k + 1 : Nat) : Int)), some (.int (j : Int))]) (H := H3) (i := 4) rfl (.int _)) (z_int (i := 1))
          rw [show ((k + 1 : Nat) : Int) - 1 = (k : Int) by omega] at h
          exact h
        exact n_call (a_cons (z_rowL (i := j) (z_ixL (i := k + 1) (z_var (i := 2) rfl (L2.Dp.mono s3 dw2)) (z_var (i := 4) rfl (.int _)) (tab_at (show k + 1 < 25 by omega))) (z_var (i := 5) rfl (.int _)) hj) (a_one (z_rowL (i := j) (z_ixL (i := k) (z_var (i := 2) rfl (L2.Dp.mono s3 dw2)) zk (tab_at (show k < 25 by omega))) (z_var (i := 5) rfl (.int _)) hj))) ⟨_, _, 1600, 1600, rfl, hb _ _ (by omega) hj, hb _ _ (by omega) hj, by decide, rfl⟩
      · obtain ⟨y4, rfl, s2⟩ := p
        have d3' := L2.Dp.mono s2 d3
        obtain ⟨t0, b0⟩ := hlm 0 (by decide)
        have hab2 : n * (826 + 826 + 1) + 1 ≤ 8990 := by
          have := Nat.mul_le_mul_right (826 + 826 + 1) h5
          omega
        have h := z_eqD (K := K) (z_call (tr := tCons (tVar 3) (tCons (tVar 3) tNil)) (E := E0) (P := PBeh) (σ := [some u, some v, some w', some x3, y4, none]) (a_cons (z_var (i := 3) rfl d3') (a_one (z_var (i := 3) rfl d3'))) ⟨n, _, _, 826, 826, rfl, t0, t0, b0, b0, hab2, rfl⟩) (z_var (σ := [some u, some v, some w', some x3, y4, none]) (i := 3) rfl d3') shp_matT.ok shp_matT.ok
        have e : tabD n (mul n (Lm n A (En0 n (pw n A p)) 0) (Lm n A (En0 n (pw n A p)) 0)) = tabD n (Lm n A (En0 n (pw n A p)) 0) := matT_congr fun i j hi hj => en_idem (tb.tab.pw p) i j hi hj
        rw [e, eqv_self shp_matT] at h
        exact s_ret (K := K) (d := .bool true) h.en fun v H3 s3 d3 => q v H3 ((s1.trans s2).trans s3) (Dn.anti (s1.trans s2) d3)
end
end Ck
end

section
set_option Elab.async false
set_option linter.all false
set_option maxRecDepth 100000
set_option maxHeartbeats 4000000
/-! rounds of wine; rings of the power. -/
namespace Ck
open PySem PySem.Spec PyProof.Rows L2
theorem shp_kn {k : Nat} : Shp 0 (.str (kn k)) := ⟨by unfold kn; split <;> decide +kernel, Nat.le_refl _⟩
theorem shp_ent {a : Nat → Rat} {k : Nat} : Shp 2 (entD a k) := shp_tuple (k := 1) fun d hd => by
  simp at hd
  rcases hd with rfl | rfl
  · exact shp_kn.mono (by decide)
  · exact shp_fr
theorem shp_fill {a : Nat → Rat} : Shp 3 (fillD a) := shp_tuple fun d hd => by
  obtain ⟨k, _, rfl⟩ := List.mem_map.mp hd; exact shp_ent
theorem shp_cell {n : Nat} {C : Wine} : Shp 4 (cellD n C) := shp_tuple (shp_tab fun _ _ => shp_fill)
/-- in a ring of casks -/
def inR (C : Wine) (r : List Nat) : Rat := sm r fun i => sm (rg 2) (C i)
theorem in_up {n D : Nat} {A : Mx} {C : Wine} {r : List Nat} (R : IsRing n A r) (t : Tab n A) (c : Cel n C D) : inR C r ≤ inR (wkd n A C) r := by
  unfold inR
  have e : sm r (fun i => sm (rg 2) (wkd n A C i)) = sm (rg n) fun j => sm (rg 2) (C j) * sm r fun i => A i j := by
    have e1 : sm r (fun i => sm (rg 2) (wkd n A C i)) = sm r (fun i => sm (rg n) fun j => A i j * sm (rg 2) (C j)) := sm_congr fun i _ => by
      show sm (rg 2) (fun k => sm (rg n) fun j => C j k * A i j) = _
      rw [sm_swap]
      exact sm_congr fun j _ => by rw [sm_mulr]; exact Rat.mul_comm _ _
    rw [e1, sm_swap]
    exact sm_congr fun j _ => by rw [sm_mulr]; exact Rat.mul_comm _ _
  rw [e]
  have hn : ∀ j, j < n → 0 ≤ sm (rg 2) (C j) := fun j hj => sm_nonneg fun k hk => c.nn j k hj (List.mem_range.mp hk)
  refine Rat.le_trans ?_ (sm_ring_le R fun j hj => Rat.mul_nonneg (hn j hj) (sm_nonneg fun i hi => t.nn i j (R.lt i hi) hj))
  refine sm_le fun j hj => ?_
  rw [R.col t hj, Rat.mul_one]
  exact Rat.le_refl
section
variable {P : Program} {w : World} {K : Fg} {mg : Str → Option Value} {base : Heap}
abbrev s_law_in : Stmt := topS 78
abbrev N_law_in : List Str := ["_law_cellar", "_law_ring", "_law_total", "_law_cask"]
theorem sc_law_in : FnScope N_law_in ["_law_cellar", "_law_ring"] (defScope s_law_in) := ⟨rfl, rfl, rfl, by decide +kernel, rfl, by decide +kernel, by decide +kernel⟩
theorem b_law_in (T : Txt K mg) : Binds K (T.fd 58) ["_law_cellar", "_law_ring"] [] := (T.F 58 _ rfl).binds (ps := ["_law_cellar", "_law_ring"]) fun _ _ _ _ _ _ us hl => match us, hl with | [_, _], _ => rfl

theorem in_fb {n D : Nat} {C : Wine} (c : Cel n C D) {r : List Nat} (hr : ∀ i ∈ r, i < n) (i : Nat) (hi : i ≤ r.length) : Fb D (i * 80) (sm (rg i) fun t => sm (rg 2) (C (r.getD t 0))) := Fb.sum c.pos i fun t ht => (Fb.sum c.pos 2 fun k hk => c.fb (hr _ (getD_in (show t < r.length by omega))) hk).mono (Nat.dvd_refl _) (by decide)
def PIn : List PyData → PyData → Prop := fun ds x => ∃ (n : Nat) (C : Wine) (D : Nat) (r : List Nat), ds = [cellD n C, ringD r] ∧ Cel n C D ∧ D < 2 ^ 1500 ∧ (∀ i ∈ r, i < n) ∧ r.length ≤ 5 ∧ x = frD (inR C r)
theorem ok_law_in (T : Txt K mg) : FnOk P w K mg base CX0 6 (T.fa 58) (T.fd 58) ["_law_cellar", "_law_ring"] (spD K PIn) := by
  refine okD (T.F 58 _ rfl) sc_law_in (fun ds r h => ?_) (fun cdv A0 outer s H vs Q E ds x hr hv hp q => ?_)
  · obtain ⟨_, _, _, _, rfl, _⟩ := h; rfl
  · obtain ⟨n, C, D, r, rfl, c, hDs, hrn, hl5, rfl⟩ := hp
    obtain ⟨u, v, rfl, du, dv⟩ := two_of hv
    refine ⟨_, (pss_cons (ps_set (i := 2) sc_law_in.nd rfl (Or.inl rfl) (pe_tup (pa_cons pe_int (pa_cons pe_int pa_nil))))
      (pss_cons (ps_for PassesOwn.never rfl (pi_tupK K (pv 1)) (pg_name (i := 3) sc_law_in.nd rfl (Or.inl rfl))
       (pss_one (ps_set (i := 2) sc_law_in.nd rfl (Or.inl rfl) (pe_call (ok_law_add T) (hr.mono (by decide)) (by rfl) (T.g 51 _ rfl) (T.F 51 _ rfl).kp (b_law_add T) .nil pass0 (pa_cons (pv 2) (pa_cons (pe_call (ok_size T) (hr.mono (by decide)) (by rfl) (T.g 20 _ rfl) (T.F 20 _ rfl).kp (b_size T) .nil pass0 (pa_cons (pe_ix (ix_seqK K) (pv 0) (pv 3) (fun _ _ => rfl)) pa_nil)) pa_nil))))))
      (pss_one (ps_ret (pv 2))))), ?_⟩
    have bdm : ∀ {m : Nat} {q : Rat}, Fb D m q → m ≤ 512 → Bd 1509 q := fun h hm => (h.mono (Nat.dvd_refl _) hm).bd c.pos (by decide) (by
      have : 512 * D < 2 ^ 9 * 2 ^ 1500 := by omega
      rw [← Nat.pow_add] at this
      exact this)
    refine s_set (K := K) (d := frD (sm (rg 0) fun t => sm (rg 2) (C (r.getD t 0)))) (z_tup (a_cons z_int (a_one z_int))) fun x2 H2 s2 d2 => ?_
    refine s_forHS (K := K) (Hb := H) (fun i σ' H' => ∃ (x2 : V) (y3 : Option V), σ' = [some u, some v, some x2, y3] ∧ Same H H' ∧ Dp K H' x2 (frD (sm (rg i) fun t => sm (rg 2) (C (r.getD t 0))))) ((src_tup (p_var (i := 1) rfl dv)).h s2) ⟨x2, none, rfl, s2, d2⟩ (fun i σ' H' p => ?_) (fun i σ' H' hi p x dx => ?_) (fun σ' H' p => ?_)
    · obtain ⟨_, _, _, s', _⟩ := p; exact s'
    · obtain ⟨x2, y3, rfl, s', d2⟩ := p
      rw [di_len] at hi
      rw [di_getD hi] at dx
      cases dx
      have hin := hrn _ (getD_in hi)
      have fs : Fb D 80 (sm (rg 2) (C (r.getD i 0))) := (Fb.sum c.pos 2 fun k hk => c.fb hin hk).mono (Nat.dvd_refl _) (by decide)
      refine s_set1 (K := K) (d := frD (sm (rg (i + 1)) fun t => sm (rg 2) (C (r.getD t 0)))) (z_call (a_cons (z_var (i := 2) rfl d2) (a_one (z_call (a_one (z_ixT (i := r.getD i 0) (z_var (i := 0) rfl (L2.Dp.mono s' du)) (z_var (i := 3) rfl (.int _)) (tab_at hin))) ⟨C (r.getD i 0), D, rfl, c.pos, lt_pw hDs (by decide), fun k hk => ⟨c.nn _ k hin hk, c.fb hin hk⟩, rfl⟩))) ⟨_, _, 1509, 1509, rfl, bdm (in_fb c hrn i (by omega)) (by omega), bdm fs (by decide), by decide, ?_⟩) fun x7 H7 s7 d7 => ⟨_, _, rfl, s'.trans s7, d7⟩
      rw [sm_range_succ]
    · obtain ⟨x2, y3, rfl, s', d2⟩ := p
      rw [di_len, sm_idx (l := r) (f := fun i => sm (rg 2) (C i))] at d2
      exact s_ret (K := K) (d := frD (inR C r)) (Ez.en (z_var (i := 2) rfl d2)) fun v H3 s3 d3 => q v H3 (s'.trans s3) (Dn.anti s' d3)
abbrev s_law_rounds : Stmt := topS 79
abbrev N_law_rounds : List Str := ["_law_table_here", "_law_cellar", "_law_circles", "_law_jug_here", "_law_first", "_law_second", "_law_middle", "_law_later", "_law_ring"]
theorem sc_law_rounds : FnScope N_law_rounds ["_law_table_here", "_law_cellar", "_law_circles", "_law_jug_here"] (defScope s_law_rounds) := ⟨rfl, rfl, rfl, by decide +kernel, rfl, by decide +kernel, by decide +kernel⟩
theorem b_law_rounds (T : Txt K mg) : Binds K (T.fd 59) ["_law_table_here", "_law_cellar", "_law_circles", "_law_jug_here"] [] := (T.F 59 _ rfl).binds (ps := ["_law_table_here", "_law_cellar", "_law_circles", "_law_jug_here"]) fun _ _ _ _ _ _ us hl => match us, hl with | [_, _, _, _], _ => rfl

theorem sameX_hid {ja : Addr} {H H' : Hp} (s : SameX ja H H') : Same (hid ja H) (hid ja H') := fun b o e => by
  unfold hid at e ⊢
  split at e
  · cases e
  · rename_i h
    rw [if_neg h]; exact s.1 _ _ h e
/-- a drop is called -/
theorem s_drop {σ : L2.St} {H : Hp} {i m : Nat} {tmany : TE} {ja : Addr} {many Z : Nat} {D : Ends} {rest : TS} (hm : σ[m]? = some (some (.ref ja))) (hmany : Ez K tmany σ H (.int (many : Int))) (h0 : 0 < many) (h9 : many < 1000) (J : JG H ja Z) (hZ : Z ≤ 100000)
    (k : ∀ (r : Nat) H', r < many → SameX ja H H' → JG H' ja (Z + 1) → rest D (σ.set i (some (.int (r : Int)))) H') : tSeq (tAsg (tCall (spDrop K) [] E0 (tCons (tVar m) (tCons tmany tNil))) (gName i)) rest D σ H :=
  ⟨.ref ja, hm, hmany H (Same.refl _) _ fun v H2 s2 dv => by
    cases dv
    exact ⟨ja, many, Z, rfl, h0, h9, J.mono s2, hZ, fun r H' hr sx J' => k r H' hr ((SameX.of s2).trans sx) J'⟩⟩
def spRounds (K : Fg) : Sp := fun vs H Q E => ∃ (n : Nat) (A : Mx) (DA : Nat) (C : Wine) (ja : Addr) (Z : Nat) (u v c : V), vs = [u, v, c, .ref ja] ∧ Dp K (hid ja H) u (tabD n A) ∧ Dp K (hid ja H) v (cellD n C) ∧ Dp K (hid ja H) c (rgsD (rgs n A)) ∧ S6 n A DA ∧ Cel n C 1 ∧ JG H ja Z ∧ Z ≤ 1000 ∧
  ∀ H', SameX ja H H' → Q (.bl true) H'
theorem ok_law_rounds (T : Txt K mg) : FnOk P w K mg base CX0 10 (T.fa 59) (T.fd 59) ["_law_table_here", "_law_cellar", "_law_circles", "_law_jug_here"] (spRounds K) := by
  refine (T.F 59 _ rfl).ok sc_law_rounds (fun vs H Q E h => ?_) (fun cdv A0 outer s H vs Q E hr h => ?_)
  · obtain ⟨_, _, _, _, _, _, _, _, _, rfl, _⟩ := h; rfl
  · obtain ⟨n, A, DA, C, ja, Z, u, v, c, rfl, du, dv, dc, S, hC, J, hZ, q⟩ := h
    refine ⟨_, (pss_cons (ps_set (i := 4) sc_law_rounds.nd rfl (Or.inl rfl) (pe_call (ok_law_drop T) (hr.mono (by decide)) (by rfl) (T.g 48 _ rfl) (T.F 48 _ rfl).kp (b_law_drop T) .nil pass0 (pa_cons (pv 3) (pa_cons pe_int pa_nil))))
      (pss_cons (ps_set (i := 5) sc_law_rounds.nd rfl (Or.inl rfl) (pe_call (ok_law_drop T) (hr.mono (by decide)) (by rfl) (T.g 48 _ rfl) (T.F 48 _ rfl).kp (b_law_drop T) .nil pass0 (pa_cons (pv 3) (pa_cons pe_int pa_nil))))
      (pss_cons (ps_set (i := 6) sc_law_rounds.nd rfl (Or.inl rfl) (pe_call (ok_after T) (hr.mono (by decide)) (by rfl) (T.g 34 _ rfl) (T.F 34 _ rfl).kp (b_after T) .nil pass0 (pa_cons (pv 0) (pa_cons (pv 4) (pa_cons (pv 1) pa_nil)))))
      (pss_cons (ps_if (pt_cmpR (op_neK K hr.units) (pe_call (ok_after T) (hr.mono (by decide)) (by rfl) (T.g 34 _ rfl) (T.F 34 _ rfl).kp (b_after T) .nil pass0 (pa_cons (pv 0) (pa_cons (pv 5) (pa_cons (pv 6) pa_nil)))) (pe_call (ok_after T) (hr.mono (by decide)) (by rfl) (T.g 34 _ rfl) (T.F 34 _ rfl).kp (b_after T) .nil pass0 (pa_cons (pv 0) (pa_cons (pe_op op_add (pv 4) (pv 5)) (pa_cons (pv 1) pa_nil)))) (nomark _))
       (pss_one (ps_ret pe_bl))
       pss_nil)
      (pss_cons (ps_if (pt_cmpR (op_neK K hr.units) (pe_call (ok_after T) (hr.mono (by decide)) (by rfl) (T.g 34 _ rfl) (T.F 34 _ rfl).kp (b_after T) .nil pass0 (pa_cons (pe_call (ok_power T) (hr.mono (by decide)) (by rfl) (T.g 32 _ rfl) (T.F 32 _ rfl).kp (b_power T) .nil pass0 (pa_cons (pv 0) (pa_cons (pv 4) pa_nil))) (pa_cons pe_int (pa_cons (pv 1) pa_nil)))) (pe_call (ok_after T) (hr.mono (by decide)) (by rfl) (T.g 34 _ rfl) (T.F 34 _ rfl).kp (b_after T) .nil pass0 (pa_cons (pv 0) (pa_cons (pv 4) (pa_cons (pv 6) pa_nil)))) (nomark _))
       (pss_one (ps_ret pe_bl))
       pss_nil)
      (pss_cons (ps_set (i := 7) sc_law_rounds.nd rfl (Or.inl rfl) (pe_call (ok_after T) (hr.mono (by decide)) (by rfl) (T.g 34 _ rfl) (T.F 34 _ rfl).kp (b_after T) .nil pass0 (pa_cons (pv 0) (pa_cons pe_int (pa_cons (pv 6) pa_nil)))))
      (pss_cons (ps_for PassesOwn.never rfl (pi_listK K (pv 2)) (pg_name (i := 8) sc_law_rounds.nd rfl (Or.inl rfl))
       (pss_one (ps_if (pt_not (pt_val (pe_call (ok_law_at_most T) (hr.mono (by decide)) (by rfl) (T.g 55 _ rfl) (T.F 55 _ rfl).kp (b_law_at_most T) .nil pass0 (pa_cons (pe_call (ok_law_in T) (hr.mono (by decide)) (by rfl) (T.g 58 _ rfl) (T.F 58 _ rfl).kp (b_law_in T) .nil pass0 (pa_cons (pv 6) (pa_cons (pv 8) pa_nil))) (pa_cons (pe_call (ok_law_in T) (hr.mono (by decide)) (by rfl) (T.g 58 _ rfl) (T.F 58 _ rfl).kp (b_law_in T) .nil pass0 (pa_cons (pv 7) (pa_cons (pv 8) pa_nil))) pa_nil)))))
        (pss_one (ps_ret pe_bl))
        pss_nil)))
      (pss_one (ps_ret pe_bl))))))))), ?_⟩
    have tb := S.tb
    have t := tb.tab
    have h5 := tb.n5
    refine s_drop (m := 3) (i := 4) (many := 9) rfl z_int (by decide) (by decide) J (by omega) fun f H1 hf sx1 J1 => ?_
    refine s_drop (m := 3) (i := 5) (many := 16) rfl z_int (by decide) (by decide) J1 (by omega) fun g H2 hg sx2 J2 => ?_
    have sx12 := sx1.trans sx2
    have sh : Same (hid ja H) H2 := (sameX_hid sx12).trans hid_same
    have du2 := L2.Dp.mono sh du
    have dv2 := L2.Dp.mono sh dv
    have dc2 := L2.Dp.mono sh dc
    have pw6 : ∀ {k : Nat}, k ≤ 60 → DA ^ k < 2 ^ 181 := fun hk => Nat.lt_of_le_of_lt (pow6 S.le (Nat.le_refl _)) (two_lt (by omega))
    have pwp : ∀ {k : Nat}, 0 < DA ^ k := Nat.pow_pos S.pos
    have hd := fun k => den_pw S.pos S.dn k
    -- middle
    refine s_set (K := K) (d := cellD n (wkd n (pw n A f) C)) (z_call (a_cons (z_var (i := 0) rfl du2) (a_cons (z_var (i := 4) rfl (.int _)) (a_one (z_var (i := 1) rfl dv2)))) ⟨n, A, C, 1, DA, f, rfl, tb, hC, S.pos, S.dn, by decide, lt_pw (pw6 (by omega)) (by decide), rfl⟩) fun x6 H3 s3 d6 => ?_
    have cM : Cel n (wkd n (pw n A f) C) (1 * DA ^ f) := hC.wkd (t.pw f) pwp (hd f)
    have cMs : 1 * DA ^ f < 2 ^ 1500 := by rw [Nat.one_mul]; exact lt_pw (pw6 (by omega)) (by decide)
    -- first test
    refine s_pass (t_val (K := K) ?_) fun H4 s4 => ?_
    · have h := z_neD (K := K) (z_call (tr := tCons (tVar 0) (tCons (tVar 5) (tCons (tVar 6) tNil))) (E := E0) (P := PAft) (σ := [some u, some v, some c, some (.ref ja), some (.int (f : Int)), some (.int (g : Int)), some x6, none, none]) (H := H3) (a_cons (z_var (i := 0) rfl (L2.Dp.mono s3 du2)) (a_cons (z_var (i := 5) rfl (.int _)) (a_one (z_var (i := 6) rfl d6)))) ⟨n, A, _, _, DA, g, rfl, tb, cM, S.pos, S.dn, cMs, lt_pw (pw6 (by omega)) (by decide), rfl⟩)
        (z_call (tr := tCons (tVar 0) (tCons (tOp (rI0 fun i j => .int (i + j)) (tVar 4) (tVar 5)) (tCons (tVar 1) tNil))) (E := E0) (P := PAft) (ds := [tabD n A, .int ((f + g : Nat) : Int), cellD n C]) (a_cons (z_var (i := 0) rfl (L2.Dp.mono s3 du2)) (a_cons (by rw [Int.natCast_add]; exact z_add (z_var (i := 4) rfl (.int _)) (z_var (i := 5) rfl (.int _))) (a_one (z_var (i := 1) rfl (L2.Dp.mono s3 dv2))))) ⟨n, A, C, 1, DA, f + g, rfl, tb, hC, S.pos, S.dn, by decide, lt_pw (pw6 (by omega)) (by decide), rfl⟩) shp_cell.ok shp_cell.ok
      have e : cellD n (wkd n (pw n A g) (wkd n (pw n A f) C)) = cellD n (wkd n (pw n A (f + g)) C) := cellD_congr fun i k hi hk => by
        rw [wkd_mul, wkd_congr (pw_add A g f).symm hi, Nat.add_comm]
      rw [e, eqv_self shp_cell] at h
      exact h
    have s34 := s3.trans s4
    -- second test
    refine s_pass (t_val (K := K) ?_) fun H5 s5 => ?_
    · have h := z_neD (K := K) (z_call (tr := tCons (tCall (spD K PPow) [] E0 (tCons (tVar 0) (tCons (tVar 4) tNil))) (tCons (tC (.int 2)) (tCons (tVar 1) tNil))) (E := E0) (P := PAft) (σ := [some u, some v, some c, some (.ref ja), some (.int (f : Int)), some (.int (g : Int)), some x6, none, none]) (H := H4) (a_cons (z_call (a_cons (z_var (i := 0) rfl (L2.Dp.mono s34 du2)) (a_one (z_var (i := 4) rfl (.int _)))) ⟨n, A, f, DA, rfl, tb, S.pos, S.dn, S.big (by omega), rfl⟩) (a_cons (z_int (i := 2)) (a_one (z_var (i := 1) rfl (L2.Dp.mono s34 dv2))))) ⟨n, pw n A f, C, 1, DA ^ f, 2, rfl, S.pwTb (by omega), hC, pwp, hd f, by decide, by rw [← Nat.pow_mul]; exact lt_pw (pw6 (by omega)) (by decide), rfl⟩)
        (z_call (tr := tCons (tVar 0) (tCons (tVar 4) (tCons (tVar 6) tNil))) (E := E0) (P := PAft) (a_cons (z_var (i := 0) rfl (L2.Dp.mono s34 du2)) (a_cons (z_var (i := 4) rfl (.int _)) (a_one (z_var (i := 6) rfl (L2.Dp.mono s4 d6))))) ⟨n, A, _, _, DA, f, rfl, tb, cM, S.pos, S.dn, cMs, lt_pw (pw6 (by omega)) (by decide), rfl⟩) shp_cell.ok shp_cell.ok
      have e : cellD n (wkd n (pw n (pw n A f) 2) C) = cellD n (wkd n (pw n A f) (wkd n (pw n A f) C)) := cellD_congr fun i k hi hk => by
        rw [wkd_mul]
        refine wkd_congr ?_ hi
        have h1 := pw_add (n := n) (pw n A f) 1 1
        refine h1.trans (mul_congr (pw_one _) (pw_one _))
      rw [e, eqv_self shp_cell] at h
      exact h
    have s35 := s34.trans s5
    -- later
    refine s_set (K := K) (d := cellD n (wkd n (pw n A 1) (wkd n (pw n A f) C))) (z_call (a_cons (z_var (i := 0) rfl (L2.Dp.mono s35 du2)) (a_cons (z_int (i := 1)) (a_one (z_var (i := 6) rfl (L2.Dp.mono (s4.trans s5) d6))))) ⟨n, A, _, _, DA, 1, rfl, tb, cM, S.pos, S.dn, cMs, lt_pw (pw6 (by omega)) (by decide), rfl⟩) fun x7 H6 s6 d7 => ?_
    have cL : Cel n (wkd n (pw n A 1) (wkd n (pw n A f) C)) (1 * DA ^ f * DA ^ 1) := cM.wkd (t.pw 1) pwp (hd 1)
    have cLs : 1 * DA ^ f * DA ^ 1 < 2 ^ 1500 := by
      rw [Nat.one_mul, ← Nat.pow_add]; exact lt_pw (pw6 (by omega)) (by decide)
    have s36 := s35.trans s6
    have dc6 := L2.Dp.mono s36 dc2
    refine s_forHS (K := K) (Hb := H6) (fun i σ' H' => ∃ y8 : Option V, σ' = [some u, some v, some c, some (.ref ja), some (.int (f : Int)), some (.int (g : Int)), some x6, some x7, y8] ∧ Same H6 H') ((src_list (p_var (i := 2) rfl dc6)).h (Same.refl _)) ⟨none, rfl, Same.refl _⟩ (fun i σ' H' p => ?_) (fun a σ' H' ha p x8 dx8 => ?_) (fun σ' H' p => ?_)
    · obtain ⟨_, _, s'⟩ := p; exact s'
    · obtain ⟨y8, rfl, s'⟩ := p
      rw [List.length_map] at ha
      have ea : ((rgs n A).map ringD).getD a .none = ringD (rgs n A)[a] := by
        rw [List.getD_eq_getElem?_getD, List.getElem?_map, List.getElem?_eq_getElem ha]; rfl
      rw [ea] at dx8
      have hrm : (rgs n A)[a] ∈ rgs n A := List.getElem_mem ha
      generalize (rgs n A)[a] = r at dx8 hrm
      have R := isRing hrm
      have hr5 : r.length ≤ 5 := by have := nodup_len R.nd R.lt; omega
      have fbIn : ∀ {CC : Wine} {D : Nat}, Cel n CC D → D < 2 ^ 1500 → Bd 1509 (inR CC r) := fun {CC D} cc hs => by
        have h := in_fb cc R.lt r.length (Nat.le_refl _)
        rw [sm_idx (l := r) (f := fun i => sm (rg 2) (CC i))] at h
        refine (h.mono (Nat.dvd_refl _) (show r.length * 80 ≤ 512 by omega)).bd cc.pos (by decide) ?_
        have : 512 * D < 2 ^ 9 * 2 ^ 1500 := by omega
        rw [← Nat.pow_add] at this
        exact this
      have hle : inR (wkd n (pw n A f) C) r ≤ inR (wkd n (pw n A 1) (wkd n (pw n A f) C)) r := by
        have h := in_up R t cM
        have e : inR (wkd n A (wkd n (pw n A f) C)) r = inR (wkd n (pw n A 1) (wkd n (pw n A f) C)) r := sm_congr fun i hi => sm_congr fun k hk => (wkd_congr (pw_one A) (R.lt i hi)).symm
        rw [e] at h; exact h
      refine s_pass1 (t_not (b := true) (t_val (K := K) ?_)) fun H7 s7 => ⟨_, rfl, s'.trans s7⟩
      have h := z_call (K := K) (tr := tCons (tCall (spD K PIn) [] E0 (tCons (tVar 6) (tCons (tVar 8) tNil))) (tCons (tCall (spD K PIn) [] E0 (tCons (tVar 7) (tCons (tVar 8) tNil))) tNil)) (E := E0) (P := fun ds r => ∃ (p q : Rat) (a b : Nat), ds = [frD p, frD q] ∧ Bd a p ∧ Bd b q ∧ a + b ≤ 7000 ∧ r = .bool (decide (p ≤ q))) (σ := [some u, some v, some c, some (.ref ja), some (.int (f : Int)), some (.int (g : Int)), some x6, some x7, some x8]) (H := H')
        (a_cons (z_call (a_cons (z_var (i := 6) rfl (L2.Dp.mono (((s4.trans s5).trans s6).trans s') d6)) (a_one (z_var (i := 8) rfl (L2.Dp.mono s' dx8)))) ⟨n, _, _, r, rfl, cM, cMs, R.lt, hr5, rfl⟩) (a_one (z_call (a_cons (z_var (i := 7) rfl (L2.Dp.mono s' d7)) (a_one (z_var (i := 8) rfl (L2.Dp.mono s' dx8)))) ⟨n, _, _, r, rfl, cL, cLs, R.lt, hr5, rfl⟩))) ⟨_, _, 1509, 1509, rfl, fbIn cM cMs, fbIn cL cLs, by decide, rfl⟩
      rw [decide_eq_true hle] at h
      exact h
    · obtain ⟨y8, rfl, s'⟩ := p
      exact s_ret (K := K) (d := .bool true) z_bl.en fun v H7 s7 d7 => by
        cases d7
        exact q _ (sx12.trans (.of ((s36.trans s').trans s7)))
abbrev s_law_rings : Stmt := topS 80
abbrev N_law_rings : List Str := ["_law_table_here", "_law_circles", "_law_steps", "_law_every", "_law_told", "_law_ring", "_law_one", "_law_cask"]
theorem sc_law_rings : FnScope N_law_rings ["_law_table_here", "_law_circles", "_law_steps"] (defScope s_law_rings) := ⟨rfl, rfl, rfl, by decide +kernel, rfl, by decide +kernel, by decide +kernel⟩
theorem b_law_rings (T : Txt K mg) : Binds K (T.fd 60) ["_law_table_here", "_law_circles", "_law_steps"] [] := (T.F 60 _ rfl).binds (ps := ["_law_table_here", "_law_circles", "_law_steps"]) fun _ _ _ _ _ _ us hl => match us, hl with | [_, _, _], _ => rfl

def PRn : List PyData → PyData → Prop := fun ds x => ∃ (n : Nat) (A : Mx) (D p : Nat), ds = [tabD n A, rgsD (rgs n A), .int (p : Int)] ∧ S6 n A D ∧ PerT n A p ∧ x = .bool true
theorem z_lenI {σ : L2.St} {H : Hp} {ta : TE} {ds : List PyData} {n : Nat} (h : Ez K ta σ H (.list ds)) (e : ds.length = n) : Ez K (tCB (rLenX K) (tCons ta tNil)) σ H (.int (n : Int)) := by rw [← e]; exact z_lenL h
theorem sum_flat : ∀ l : List (List Nat), ((l.map fun r => ((r.length : Nat) : Int)).sum) = ((l.flatten.length : Nat) : Int)
  | [] => rfl
  | r :: l => by rw [List.map_cons, List.sum_cons, sum_flat l, List.flatten_cons, List.length_append, Int.natCast_add]
theorem getD_ring {l : List (List Nat)} {i : Nat} (h : i < l.length) : (l.map ringD).getD i .none = ringD (l.getD i []) := by
  rw [List.getD_eq_getElem?_getD, List.getElem?_map, List.getElem?_eq_getElem h, List.getD_eq_getElem?_getD, List.getElem?_eq_getElem h]; rfl
theorem getL_mem {l : List (List Nat)} {i : Nat} (h : i < l.length) : l.getD i [] ∈ l := by
  rw [List.getD_eq_getElem?_getD, List.getElem?_eq_getElem h]; exact List.getElem_mem h
theorem ok_law_rings (T : Txt K mg) : FnOk P w K mg base CX0 10 (T.fa 60) (T.fd 60) ["_law_table_here", "_law_circles", "_law_steps"] (spD K PRn) := by
  refine okD (T.F 60 _ rfl) sc_law_rings (fun ds r h => ?_) (fun cdv A0 outer s H vs Q E ds x hr hv hp q => ?_)
  · obtain ⟨_, _, _, _, rfl, _⟩ := h; rfl
  · obtain ⟨n, A, D, p, rfl, S, hp, rfl⟩ := hp
    obtain ⟨u, v, w', rfl, du, dv, dw⟩ := three_of hv
    cases dw
    refine ⟨_, (pss_cons (ps_set (i := 3) sc_law_rings.nd rfl (Or.inl rfl) (pe_call (ok_power T) (hr.mono (by decide)) (by rfl) (T.g 32 _ rfl) (T.F 32 _ rfl).kp (b_power T) .nil pass0 (pa_cons (pv 0) (pa_cons (pv 2) pa_nil))))
      (pss_cons (ps_if (pt_cmpR (op_neK K hr.units) (pe_call (ok_period T) (hr.mono (by decide)) (by rfl) (T.g 39 _ rfl) (T.F 39 _ rfl).kp (b_period T) .nil pass0 (pa_cons (pv 3) pa_nil)) pe_int (nomark _))
       (pss_one (ps_ret pe_bl))
       pss_nil)
      (pss_cons (ps_set (i := 4) sc_law_rings.nd rfl (Or.inl rfl) (pe_call (ok_rings T) (hr.mono (by decide)) (by rfl) (T.g 37 _ rfl) (T.F 37 _ rfl).kp (b_rings T) .nil pass0 (pa_cons (pv 3) pa_nil)))
      (pss_cons (ps_for PassesOwn.never rfl (pi_listK K (pv 4)) (pg_name (i := 5) sc_law_rings.nd rfl (Or.inr rfl))
       (pss_one (ps_if (pt_cmpR (op_neK K hr.units) (pe_callB (call_lenK K) (by rfl) (T.n "len") PySem.boot_len (pa_cons (pe_lc (own := [("_law_one", 6)])  rfl sc_law_rings.nd (pi_listK K (pv 1)) (blkOk_by (N := N_law_rings) (sc := defScope s_law_rings) (by decide +kernel)) (fun _ _ _ _ _ => (pg_name (i := 6) sc_law_rings.nd rfl (Or.inr rfl))) (fun _ _ _ _ _ => (pts_one (pt_val (pe_callB (cr_allK K rfl) (by rfl) (T.n "all") (by decide +kernel) (pa_cons (pe_lc (own := [("_law_cask", 7)])  rfl sc_law_rings.nd (pi_tupK K (pv 5)) (blkOk_by (N := N_law_rings) (sc := (relS ({ kind := PySem.ScopeKind.function, names := [ (PySem.Str.ofString ".0", PySem.NameKind.local), (PySem.Str.ofString "_law_one", PySem.NameKind.cell), (PySem.Str.ofString "all", PySem.NameKind.globalImplicit), (PySem.Str.ofString "_law_ring", PySem.NameKind.free)], isGenerator := false, isCoroutine := false, more := [] : PySem.Scope }) (defScope s_law_rings))) (by decide +kernel)) (fun _ _ _ _ _ => (pg_name (i := 7) sc_law_rings.nd rfl (Or.inl rfl))) (fun _ _ _ _ _ => pts_nil) (fun _ _ _ _ _ => (pe_cmpR (op_inK K) (pv 7) (pv 6) (by rfl)))) pa_nil))))) (fun _ _ _ _ _ => (pv 6))) pa_nil)) pe_int (nomark _))
        (pss_one (ps_ret pe_bl))
        pss_nil)))
      (pss_one (ps_ret (pe_cmpR (op_eqK K hr.units) (pe_callB (cr_sumK K rfl) (by rfl) (T.n "sum") (by decide +kernel) (pa_cons (pe_lc (own := [("_law_ring", 5)])  rfl sc_law_rings.nd (pi_listK K (pv 4)) (blkOk_by (N := N_law_rings) (sc := defScope s_law_rings) (by decide +kernel)) (fun _ _ _ _ _ => (pg_name (i := 5) sc_law_rings.nd rfl (Or.inl rfl))) (fun _ _ _ _ _ => pts_nil) (fun _ _ _ _ _ => (pe_callB (call_lenK K) (by rfl) (T.n "len") PySem.boot_len (pa_cons (pv 5) pa_nil)))) pa_nil)) (pe_callB (cr_sumK K rfl) (by rfl) (T.n "sum") (by decide +kernel) (pa_cons (pe_lc (own := [("_law_ring", 5)])  rfl sc_law_rings.nd (pi_listK K (pv 1)) (blkOk_by (N := N_law_rings) (sc := defScope s_law_rings) (by decide +kernel)) (fun _ _ _ _ _ => (pg_name (i := 5) sc_law_rings.nd rfl (Or.inl rfl))) (fun _ _ _ _ _ => pts_nil) (fun _ _ _ _ _ => (pe_callB (call_lenK K) (by rfl) (T.n "len") PySem.boot_len (pa_cons (pv 5) pa_nil)))) pa_nil)) (nomark _)))))))), ?_⟩
    have tb := S.tb
    have h5 := tb.n5
    obtain ⟨p1, p6, _⟩ := hp.bds tb.tab h5
    have tbP := S.pwTb (k := p) (by omega)
    refine s_set (K := K) (d := tabD n (pw n A p)) (z_call (a_cons (z_var (i := 0) rfl du) (a_one (z_var (i := 2) rfl (.int _)))) ⟨n, A, p, D, rfl, tb, S.pos, S.dn, S.big (by omega), rfl⟩) fun x3 H1 s1 d3 => ?_
    refine s_pass (t_val (K := K) ?_) fun H2 s2 => ?_
    · have h := z_neI (K := K) (Er.ez (d := .int ((1 : Nat) : Int)) (er_call (E := E0) (Pd := PPrd) (tr := tCons (tVar 3) tNil) (σ := [some u, some v, some (.int (p : Int)), some x3, none, none, none, none]) (H := H1) (a_one (z_var (i := 3) rfl d3)) ⟨n, pw n A p, rfl, tbP, rfl⟩) (fun r ⟨p', hp', e⟩ => by rw [e, perT_pw tb.tab h5 hp hp'])) (z_int (i := 1))
      exact h
    refine s_set (K := K) (d := rgsD (rgs n (pw n A p))) (z_call (a_one (z_var (i := 3) rfl (L2.Dp.mono s2 d3))) ⟨n, _, rfl, tbP, rfl⟩) fun x4 H3 s3 d4 => ?_
    have s13 := (s1.trans s2).trans s3
    have dv3 := L2.Dp.mono s13 dv
    have hrl := rgs_len (n := n) (A := A)
    have hrl2 := rgs_len (n := n) (A := pw n A p)
    refine s_forHS (K := K) (Hb := H3) (fun i σ' H' => ∃ y5 : Option V, σ' = [some u, some v, some (.int (p : Int)), some x3, some x4, y5, none, none] ∧ Same H3 H') ((src_list (p_var (i := 4) rfl d4)).h (Same.refl _)) ⟨none, rfl, Same.refl _⟩ (fun i σ' H' p => ?_) (fun a σ' H' ha q3 x5 dx5 => ?_) (fun σ' H' q3 => ?_)
    · obtain ⟨_, _, s'⟩ := p; exact s'
    · obtain ⟨y5, rfl, s'⟩ := q3
      rw [List.length_map] at ha
      rw [getD_ring ha] at dx5
      have hsm := getL_mem ha
      generalize (rgs n (pw n A p)).getD a [] = sr at dx5 hsm
      have SR := isRing hsm
      have hsl : sr.length ≤ n := nodup_len SR.nd SR.lt
      refine s_pass1 (t_val (K := K) ?_) fun H4 s4 => ⟨_, rfl, s'.trans s4⟩
      obtain ⟨r, hr1, hr2, hr3⟩ := ring_sub_pw tb.tab p1 hsm
      have dv' := L2.Dp.mono s' dv3
      have dx5' := L2.Dp.mono s' dx5
      -- the rings that hold it
      have hlc := n_lc (K := K) (σ := [some u, some v, some (.int (p : Int)), some x3, some x4, some x5, none, none]) (H := H') (vs := [6]) (j := 6) (tt := tB (tCB (rAll K) (tCons (tLc (iTup K (tVar 5)) (gName 7) tYes (tOp (rIn K false) (tVar 7) (tVar 6)) [7]) tNil))) (te := tVar 6) (p := fun i => sr.all fun c => decide (c ∈ (rgs n A).getD i [])) (gd := fun i => ringD ((rgs n A).getD i [])) (src_list (p_var (i := 1) rfl dv')).g (by rw [List.length_map]; omega)
        (fun i hi x H4 s4 dx => by
          rw [List.length_map] at hi
          rw [getD_ring hi] at dx
          exact t_val (K := K) (z_allL (En.ez (n_lcI (src_tup (p_var (i := 5) rfl (L2.Dp.mono s4 dx5'))).g (by omega) fun cc hcc H6 s6 => (z_inT (z_var (i := 7) rfl (.int _)) (z_var (i := 6) rfl (L2.Dp.mono s6 dx))).en))))
        (fun i hi _ x H4 s4 dx => by
          rw [List.length_map] at hi
          rw [getD_ring hi] at dx
          exact (Ez.en (z_var (i := 6) rfl dx) flat_ring))
      rw [List.length_map] at hlc
      have hcount : (pick (rgs n A).length (fun i => sr.all fun c => decide (c ∈ (rgs n A).getD i [])) fun i => ringD ((rgs n A).getD i [])).length = 1 := by
        unfold pick
        rw [List.length_map]
        obtain ⟨i0, hi0, e0⟩ := List.getElem_of_mem hr1
        have e1 : (List.range (rgs n A).length).filter (fun i => sr.all fun c => decide (c ∈ (rgs n A).getD i [])) = (List.range (rgs n A).length).filter fun i => decide (i = i0) := by
          refine List.filter_congr fun i hi => ?_
          have hi := List.mem_range.mp hi
          have ei : (rgs n A).getD i [] = (rgs n A)[i] := by
            rw [List.getD_eq_getElem?_getD, List.getElem?_eq_getElem hi]; rfl
          rw [ei]
          by_cases c : i = i0
          · subst c
            rw [decide_eq_true rfl]
            exact List.all_eq_true.mpr fun cc hcc => decide_eq_true (by rw [e0]; exact hr2 cc hcc)
          · rw [decide_eq_false c]
            rw [List.all_eq_false]
            refine Classical.byContradiction fun hno => c ?_
            have hall : ∀ cc ∈ sr, cc ∈ (rgs n A)[i] := fun cc hcc => Classical.byContradiction fun z => hno ⟨cc, hcc, by rw [decide_eq_false z]; decide⟩
            have := hr3 _ (List.getElem_mem hi) hall
            rw [← e0] at this
            have hnd := List.nodup_iff_pairwise_ne.mp (rgs_nodup (n := n) (A := A))
            rcases Nat.lt_trichotomy i i0 with h | h | h
            · exact absurd this (List.pairwise_iff_getElem.mp hnd i i0 hi hi0 h)
            · exact h
            · exact absurd this.symm (List.pairwise_iff_getElem.mp hnd i0 i hi0 hi h)
        rw [e1]
        have e2 : ∀ m, i0 < m → ((List.range m).filter fun i => decide (i = i0)).length = 1 := by
          intro m
          induction m with
          | zero => intro h; omega
          | succ m ih =>
            intro h
            rw [List.range_succ, List.filter_append, List.length_append]
            by_cases c : i0 = m
            · subst c
              rw [List.filter_eq_nil_iff.mpr fun x hx => by have := List.mem_range.mp hx; simp; omega]
              simp
            · rw [ih (by omega)]
              have : (m = i0) = False := by simp; omega
              simp [this]
        exact e2 _ hi0
      have h := z_neI (K := K) (z_lenI hlc.ez hcount) (z_int (i := 1))
      exact h
    · obtain ⟨y5, rfl, s'⟩ := q3
      have zs : ∀ {B : Mx} {i : Nat} {y : V} {H' : Hp}, ([some u, some v, some (.int (p : Int)), some x3, some x4, y5, none, none] : L2.St)[i]? = some (some y) → (i = 1 ∨ i = 4) → Dp K H' y (rgsD (rgs n B)) → Ez K (tCB (rSum K) (tCons (tLc (iList K (tVar i)) (gName 5) tYes (tCB (rLenX K) (tCons (tVar 5) tNil)) [5]) tNil)) [some u, some v, some (.int (p : Int)), some x3, some x4, y5, none, none] H' (.int (((rgs n B).flatten.length : Nat) : Int)) := fun {B i y H'} e hi dy => by
        have e3 : (((rgs n B).flatten.length : Nat) : Int) = isum (rgs n B).length fun i => ((((rgs n B).getD i []).length : Nat) : Int) := by
          rw [← sum_flat]
          unfold isum
          congr 1
          refine List.ext_getElem? fun t => ?_
          by_cases ht : t < (rgs n B).length
          · rw [List.getElem?_map, List.getElem?_eq_getElem ht, List.getElem?_map, List.getElem?_range ht]
            show some _ = some ((((rgs n B).getD t []).length : Nat) : Int)
            rw [List.getD_eq_getElem?_getD, List.getElem?_eq_getElem ht]; rfl
          · rw [List.getElem?_eq_none (by rw [List.length_map]; omega), List.getElem?_eq_none (by rw [List.length_map, List.length_range]; omega)]
        rw [e3]
        refine z_sum (En.ez ?_)
        have hs := rgs_len (n := n) (A := B)
        have h := n_lcA (K := K) (σ := [some u, some v, some (.int (p : Int)), some x3, some x4, y5, none, none]) (H := H') (vs := [5]) (j := 5) (te := tCB (rLenX K) (tCons (tVar 5) tNil)) (gd := fun i => .int ((((rgs n B).getD i []).length : Nat) : Int)) (src_list (p_var e dy)).g (by rw [List.length_map]; omega) (fun i hi x H1 s1 dx => by
          rw [List.length_map] at hi
          rw [getD_ring hi] at dx
          have h := z_lenT (K := K) (z_var (σ := [some u, some v, some (.int (p : Int)), some x3, some x4, some x, none, none]) (i := 5) rfl dx)
          rw [di_len] at h
          exact h.en)
        rw [List.length_map] at h
        exact h
      have h := z_eqI (K := K) (zs (B := pw n A p) (i := 4) rfl (.inr rfl) (L2.Dp.mono s' d4)) (zs (B := A) (i := 1) rfl (.inl rfl) (L2.Dp.mono s' dv3))
      rw [flat_len tb.tab p1, decide_eq_true rfl] at h
      exact s_ret (K := K) (d := .bool true) h.en fun v H4 s4 d4 => q v H4 ((s13.trans s').trans s4) (Dn.anti (s13.trans s') d4)
end
end Ck
end

section
set_option Elab.async false
set_option linter.all false
set_option maxRecDepth 100000
set_option maxHeartbeats 4000000
/-! the law's comparison; near in the law. -/
namespace Ck
open PySem PySem.Spec PyProof.Rows L2
section
variable {P : Program} {w : World} {K : Fg} {mg : Str → Option Value} {base : Heap}
theorem z_isiT {σ : L2.St} {H : Hp} {ta : TE} {d : PyData} {b : Bool} (ha : Ez K ta σ H d) (hb : PySem.W.kitAny K (.type (tyD d)) [.type "tuple", .type "list"] = some b) : Ez K (tCB (rIsiT K) (tCons ta (tCons (tTup (tCons (tC (.ty "tuple")) (tCons (tC (.ty "list")) tNil))) tNil))) σ H (.bool b) := fun H1 s Q q =>
  ha H1 s _ fun v H2 s2 dv => ⟨by show 2 ≤ sizeLine; decide, fun tp ntp => ⟨v, tp, [.ty "tuple", .ty "list"], .type (tyD d), [.type "tuple", .type "list"], b, rfl, upd_same, .cons (.ty "tuple") (.cons (.ty "list") .nil), dp_ty (L2.Dp.mono (same_new ntp) dv), hb, q _ _ (s2.trans (same_new ntp)) (.bl b)⟩⟩
theorem eqv_bool {a b : Bool} : PyData.eqv (.bool a) (.bool b) = (a == b) := by
  unfold PyData.eqv
  first | rfl | simp
theorem z_neB {σ : L2.St} {H : Hp} {ta tb : TE} {a b : Bool} (ha : Ez K ta σ H (.bool a)) (hb : Ez K tb σ H (.bool b)) : Ez K (tOp (rNeD K) ta tb) σ H (.bool (!(a == b))) := by
  have h := z_neD ha hb
  rw [eqv_bool] at h; exact h
abbrev s_law_same : Stmt := topS 69
abbrev N_law_same : List Str := ["_law_found", "_law_due", "_law_k"]
theorem sc_law_same : FnScope N_law_same ["_law_found", "_law_due"] (defScope s_law_same) := ⟨rfl, rfl, rfl, by decide +kernel, rfl, by decide +kernel, by decide +kernel⟩
theorem b_law_same (T : Txt K mg) : Binds K (T.fd 50) ["_law_found", "_law_due"] [] := (T.F 50 _ rfl).binds (ps := ["_law_found", "_law_due"]) fun _ _ _ _ _ _ us hl => match us, hl with | [_, _], _ => rfl

theorem kit_int : PySem.W.kitAny K (.type "int") [.type "tuple", .type "list"] = some false := by
  unfold PySem.W.kitAny PySem.W.kitAny PySem.W.kitAny
  rfl
theorem kit_list : PySem.W.kitAny K (.type "list") [.type "tuple", .type "list"] = some true := by
  unfold PySem.W.kitAny PySem.W.kitAny
  rfl
theorem ok_law_same0 (T : Txt K mg) : FnOk P w K mg base CX0 1 (T.fa 50) (T.fd 50) ["_law_found", "_law_due"] (spD K fun ds r => ∃ a : Int, ds = [.int a, .int a] ∧ r = .bool true) := by
  refine okD (T.F 50 _ rfl) sc_law_same (fun ds r h => ?_) (fun cdv A0 outer s H vs Q E ds r hr hv hp q => ?_)
  · obtain ⟨_, rfl, _⟩ := h; rfl
  · obtain ⟨a, rfl, rfl⟩ := hp
    obtain ⟨u, v, rfl, du, dv⟩ := two_of hv
    cases du; cases dv
    refine ⟨_, (pss_cons (ps_if (pt_val (pe_callB (call_isiTQ K) (by rfl) (T.n "isinstance") (by decide +kernel) (pa_cons (pv 1) (pa_cons (pe_tup (pa_cons (pe_bltn (v := .ty "tuple") (by rfl) (T.n "tuple") (by decide +kernel) rfl) (pa_cons (pe_bltn (v := .ty "list") (by rfl) (T.n "list") (by decide +kernel) rfl) pa_nil))) pa_nil))))
       pss_never
       pss_nil)
      (pss_cons (ps_if (pt_cmpR op_isN (pv 1) pe_non (nomark _))
       (pss_one (ps_ret (pe_cmpR op_isN (pv 0) pe_non (nomark _))))
       pss_nil)
      (pss_cons (ps_if (pt_val (pe_callB (call_isiQ K) (by rfl) (T.n "isinstance") (by decide +kernel) (pa_cons (pv 1) (pa_cons (pe_bltn (v := .ty "bool") (by rfl) (T.n "bool") (by decide +kernel) rfl) pa_nil))))
       (pss_one (ps_ret (pe_and (pe_callB (call_isiQ K) (by rfl) (T.n "isinstance") (by decide +kernel) (pa_cons (pv 0) (pa_cons (pe_bltn (v := .ty "bool") (by rfl) (T.n "bool") (by decide +kernel) rfl) pa_nil))) (pe_one (pe_cmpR (op_eqK K hr.units) (pv 0) (pv 1) (nomark _))))))
       pss_nil)
      (pss_cons (ps_if (pt_val (pe_callB (call_isiQ K) (by rfl) (T.n "isinstance") (by decide +kernel) (pa_cons (pv 1) (pa_cons (pe_bltn (v := .ty "str") (by rfl) (T.n "str") (by decide +kernel) rfl) pa_nil))))
       (pss_one (ps_ret (pe_and (pe_callB (call_isiQ K) (by rfl) (T.n "isinstance") (by decide +kernel) (pa_cons (pv 0) (pa_cons (pe_bltn (v := .ty "str") (by rfl) (T.n "str") (by decide +kernel) rfl) pa_nil))) (pe_one (pe_cmpR (op_eqK K hr.units) (pv 0) (pv 1) (nomark _))))))
       pss_nil)
      (pss_one (ps_ret (pe_and (pe_callB (call_isiQ K) (by rfl) (T.n "isinstance") (by decide +kernel) (pa_cons (pv 0) (pa_cons (pe_bltn (v := .ty "int") (by rfl) (T.n "int") (by decide +kernel) rfl) pa_nil))) (pe_and (pe_not (pe_callB (call_isiQ K) (by rfl) (T.n "isinstance") (by decide +kernel) (pa_cons (pv 0) (pa_cons (pe_bltn (v := .ty "bool") (by rfl) (T.n "bool") (by decide +kernel) rfl) pa_nil)))) (pe_one (pe_cmpR (op_eqK K hr.units) (pv 0) (pv 1) (nomark _))))))))))), ?_⟩
    have zv : ∀ {H' : Hp}, Ez K (tVar 1) (start N_law_same [.int a, .int a]) H' (.int a) := z_var rfl (.int _)
    have zu : ∀ {H' : Hp}, Ez K (tVar 0) (start N_law_same [.int a, .int a]) H' (.int a) := z_var rfl (.int _)
    refine s_pass (t_val (K := K) (z_isiT zv kit_int)) fun H1 s1 => ?_
    refine s_pass (t_val (K := K) (fun H1 s Q q => ?_)) fun H2 s2 => ?_
    · exact ⟨.int a, rfl, rfl, q _ H1 (Same.refl _) (.bl _)⟩
    refine s_pass (t_val (K := K) (z_isi zv)) fun H3 s3 => ?_
    refine s_pass (t_val (K := K) (z_isi zv)) fun H4 s4 => ?_
    refine s_ret (K := K) (d := .bool true) (Ez.en ?_) fun v H5 s5 d5 => q v H5 ((((s1.trans s2).trans s3).trans s4).trans s5) (Dn.anti (((s1.trans s2).trans s3).trans s4) d5)
    refine z_andV (b := true) (c := true) (z_isi zu) fun _ => z_andV (b := true) (c := true) (z_notV (b := false) (z_isi zu)) fun _ => ?_
    have h := z_eqI (K := K) (zu (H' := H4)) zv
    rw [decide_eq_true rfl] at h
    exact h
theorem ok_law_same1 (T : Txt K mg) : FnOk P w K mg base CX0 2 (T.fa 50) (T.fd 50) ["_law_found", "_law_due"] (spD K fun ds r => ∃ a : Int, ds = [.list [.int a], .list [.int a]] ∧ r = .bool true) := by
  refine okD (T.F 50 _ rfl) sc_law_same (fun ds r h => ?_) (fun cdv A0 outer s H vs Q E ds r hr hv hp q => ?_)
  · obtain ⟨_, rfl, _⟩ := h; rfl
  · obtain ⟨a, rfl, rfl⟩ := hp
    obtain ⟨u, v, rfl, du, dv⟩ := two_of hv
    refine ⟨_, (pss_cons (ps_if (pt_val (pe_callB (call_isiTQ K) (by rfl) (T.n "isinstance") (by decide +kernel) (pa_cons (pv 1) (pa_cons (pe_tup (pa_cons (pe_bltn (v := .ty "tuple") (by rfl) (T.n "tuple") (by decide +kernel) rfl) (pa_cons (pe_bltn (v := .ty "list") (by rfl) (T.n "list") (by decide +kernel) rfl) pa_nil))) pa_nil))))
       (pss_cons (ps_if (PW.pt (pw_or (pt_cmpR (op_neK K hr.units) (pe_callB (call_isiQ K) (by rfl) (T.n "isinstance") (by decide +kernel) (pa_cons (pv 0) (pa_cons (pe_bltn (v := .ty "tuple") (by rfl) (T.n "tuple") (by decide +kernel) rfl) pa_nil))) (pe_callB (call_isiQ K) (by rfl) (T.n "isinstance") (by decide +kernel) (pa_cons (pv 1) (pa_cons (pe_bltn (v := .ty "tuple") (by rfl) (T.n "tuple") (by decide +kernel) rfl) pa_nil))) (nomark _)) (pw_or1 (pt_cmpR (op_neK K hr.units) (pe_callB (call_isiQ K) (by rfl) (T.n "isinstance") (by decide +kernel) (pa_cons (pv 0) (pa_cons (pe_bltn (v := .ty "list") (by rfl) (T.n "list") (by decide +kernel) rfl) pa_nil))) (pe_callB (call_isiQ K) (by rfl) (T.n "isinstance") (by decide +kernel) (pa_cons (pv 1) (pa_cons (pe_bltn (v := .ty "list") (by rfl) (T.n "list") (by decide +kernel) rfl) pa_nil))) (nomark _)))))
        (pss_one (ps_ret pe_bl))
        pss_nil)
       (pss_one (ps_ret (pe_and (pe_cmpR (op_eqK K hr.units) (pe_callB (call_lenK K) (by rfl) (T.n "len") PySem.boot_len (pa_cons (pv 0) pa_nil)) (pe_callB (call_lenK K) (by rfl) (T.n "len") PySem.boot_len (pa_cons (pv 1) pa_nil)) (nomark _)) (pe_one (pe_callB (cr_allK K rfl) (by rfl) (T.n "all") (by decide +kernel) (pa_cons (pe_lc (own := [("_law_k", 2)])  rfl sc_law_same.nd (pi_range1 (by rfl) (T.n "range") (pa_cons (pe_callB (call_lenK K) (by rfl) (T.n "len") PySem.boot_len (pa_cons (pv 1) pa_nil)) pa_nil)) (blkOk_by (N := N_law_same) (sc := defScope s_law_same) (by decide +kernel)) (fun _ _ _ _ _ => (pg_name (i := 2) sc_law_same.nd rfl (Or.inl rfl))) (fun _ _ _ _ _ => pts_nil) (fun _ _ _ _ _ => (pe_call (ok_law_same0 T) (hr.mono (by decide)) (by rfl) (T.g 50 _ rfl) (T.F 50 _ rfl).kp (b_law_same T) .nil pass0 (pa_cons (pe_ix (ix_seqK K) (pv 0) (pv 2) (fun _ _ => rfl)) (pa_cons (pe_ix (ix_seqK K) (pv 1) (pv 2) (fun _ _ => rfl)) pa_nil))))) pa_nil)))))))
       pss_nil)
      (pss_cons (ps_if (pt_cmpR op_isN (pv 1) pe_non (nomark _))
       (pss_one (ps_ret (pe_cmpR op_isN (pv 0) pe_non (nomark _))))
       pss_nil)
      (pss_cons (ps_if (pt_val (pe_callB (call_isiQ K) (by rfl) (T.n "isinstance") (by decide +kernel) (pa_cons (pv 1) (pa_cons (pe_bltn (v := .ty "bool") (by rfl) (T.n "bool") (by decide +kernel) rfl) pa_nil))))
       (pss_one (ps_ret (pe_and (pe_callB (call_isiQ K) (by rfl) (T.n "isinstance") (by decide +kernel) (pa_cons (pv 0) (pa_cons (pe_bltn (v := .ty "bool") (by rfl) (T.n "bool") (by decide +kernel) rfl) pa_nil))) (pe_one (pe_cmpR (op_eqK K hr.units) (pv 0) (pv 1) (nomark _))))))
       pss_nil)
      (pss_cons (ps_if (pt_val (pe_callB (call_isiQ K) (by rfl) (T.n "isinstance") (by decide +kernel) (pa_cons (pv 1) (pa_cons (pe_bltn (v := .ty "str") (by rfl) (T.n "str") (by decide +kernel) rfl) pa_nil))))
       (pss_one (ps_ret (pe_and (pe_callB (call_isiQ K) (by rfl) (T.n "isinstance") (by decide +kernel) (pa_cons (pv 0) (pa_cons (pe_bltn (v := .ty "str") (by rfl) (T.n "str") (by decide +kernel) rfl) pa_nil))) (pe_one (pe_cmpR (op_eqK K hr.units) (pv 0) (pv 1) (nomark _))))))
       pss_nil)
      (pss_one (ps_ret (pe_and (pe_callB (call_isiQ K) (by rfl) (T.n "isinstance") (by decide +kernel) (pa_cons (pv 0) (pa_cons (pe_bltn (v := .ty "int") (by rfl) (T.n "int") (by decide +kernel) rfl) pa_nil))) (pe_and (pe_not (pe_callB (call_isiQ K) (by rfl) (T.n "isinstance") (by decide +kernel) (pa_cons (pv 0) (pa_cons (pe_bltn (v := .ty "bool") (by rfl) (T.n "bool") (by decide +kernel) rfl) pa_nil)))) (pe_one (pe_cmpR (op_eqK K hr.units) (pv 0) (pv 1) (nomark _))))))))))), ?_⟩
    have zu : ∀ {σ : L2.St} {H' : Hp}, σ[0]? = some (some u) → Same H H' → Ez K (tVar 0) σ H' (.list [.int a]) := fun e s => z_var e (L2.Dp.mono s du)
    have zv : ∀ {σ : L2.St} {H' : Hp}, σ[1]? = some (some v) → Same H H' → Ez K (tVar 1) σ H' (.list [.int a]) := fun e s => z_var e (L2.Dp.mono s dv)
    refine s_if (b := true) (t_val (K := K) (z_isiT (zv rfl (Same.refl _)) kit_list)) (fun _ H1 s1 => ?_) (fun h => by cases h)
    refine s_pass (t_or (b := false) (c := false) (t_val (K := K) (z_neB (a := false) (b := false) (z_isi (zu rfl s1)) (z_isi (zv rfl s1)))) fun _ => t_val (K := K) (z_neB (a := true) (b := true) (z_isi (zu rfl s1)) (z_isi (zv rfl s1)))) fun H2 s2 => ?_
    have s12 := s1.trans s2
    refine s_ret (K := K) (d := .bool true) (Ez.en ?_) fun v H5 s5 d5 => q v H5 (s12.trans s5) (Dn.anti s12 d5)
    refine z_andV (b := true) (c := true) ?_ fun _ => ?_
    · have h := z_eqI (K := K) (z_lenL (zu (σ := start N_law_same [u, v]) rfl s12)) (z_lenL (zv (σ := start N_law_same [u, v]) rfl s12))
      rw [decide_eq_true rfl] at h
      exact h
    · refine z_allT (n := 1) (p := fun _ => true) (En.ez ?_) fun _ _ => rfl
      have hl := p_lenL (K := K) (σ := start N_law_same [u, v]) (p_var (i := 1) rfl (L2.Dp.mono s12 dv))
      refine n_lcA (src_r1 (n := 1) (ap_one hl) (by decide)).g (by decide) fun i hi z H3 s3 dz => ?_
      have hi0 : i = 0 := by omega
      subst hi0
      cases dz
      exact n_call (a_cons (z_ixL (i := 0) (zu rfl (s12.trans s3)) (z_var (i := 2) rfl (.int _)) rfl) (a_one (z_ixL (i := 0) (zv rfl (s12.trans s3)) (z_var (i := 2) rfl (.int _)) rfl))) ⟨a, rfl, rfl⟩
abbrev s_law_near : Stmt := topS 77
abbrev N_law_near : List Str := ["_law_table_here", "_law_rows", "_law_nearness", "_law_fine", "_law_told", "e", "_law_k", "_law_one"]
theorem sc_law_near : FnScope N_law_near ["_law_table_here", "_law_rows", "_law_nearness"] (defScope s_law_near) := ⟨rfl, rfl, rfl, by decide +kernel, rfl, by decide +kernel, by decide +kernel⟩
theorem b_law_near (T : Txt K mg) : Binds K (T.fd 57) ["_law_table_here", "_law_rows", "_law_nearness"] [] := (T.F 57 _ rfl).binds (ps := ["_law_table_here", "_law_rows", "_law_nearness"]) fun _ _ _ _ _ _ us hl => match us, hl with | [_, _, _], _ => rfl

theorem pick_min {n : Nat} {p : Nat → Bool} {gd : Nat → PyData} {i : Nat} (hi : i < n) (hp : p i = true) (hmin : ∀ k, k < i → p k = false) : (pick n p gd)[0]? = some (gd i) := by
  obtain ⟨i0, h1, h2, h3⟩ := pick_head (gd := gd) hi hp
  have hr : ∀ m, i < m → ((List.range m).filter p)[0]? = some i := by
    intro m
    induction m with
    | zero => intro h; omega
    | succ m ih =>
      intro h
      rw [List.range_succ, List.filter_append]
      by_cases c : i < m
      · have := ih c
        cases e : (List.range m).filter p with
        | nil => rw [e] at this; cases this
        | cons a l => rw [e] at this; exact this
      · have e : m = i := by omega
        subst e
        rw [List.filter_eq_nil_iff.mpr fun x hx => by rw [hmin x (List.mem_range.mp hx)]; decide]
        rw [List.filter_cons_of_pos hp]; rfl
  unfold pick
  rw [List.getElem?_map, hr n hi]; rfl
theorem pick_no {n : Nat} {p : Nat → Bool} {gd : Nat → PyData} (h : ∀ k, k < n → p k = false) : pick n p gd = [] := by
  unfold pick
  rw [List.filter_eq_nil_iff.mpr fun x hx => by rw [h x (List.mem_range.mp hx)]; decide]
  rfl
def PLn : List PyData → PyData → Prop := fun ds r => ∃ (n : Nat) (A : Mx) (D p : Nat) (d : Nat → Nat → Rat) (q : Rat), ds = [tabD n A, .list (tab 25 fun k => rowL n (d k)), frD q] ∧ S6 n A D ∧ PerT n A p ∧ 0 < q ∧ Bd 40 q ∧
  (∀ k j, k < 25 → j < n → Bd 1600 (d k j) ∧ d k j = nrm n (gap n A (En0 n (pw n A p)) k) j) ∧ r = .bool true
theorem ok_law_near {C DD fI : Addr} (T : Txt K mg) (TT : PySem.TooX.TooTxt P K mg C DD fI) : FnOk P w K mg base CX0 11 (T.fa 57) (T.fd 57) ["_law_table_here", "_law_rows", "_law_nearness"] (spD K PLn) := by
  refine okD (T.F 57 _ rfl) sc_law_near (fun ds r h => ?_) (fun cdv A0 outer s H vs Q E ds r hr hv hp q => ?_)
  · obtain ⟨_, _, _, _, _, _, rfl, _⟩ := h; rfl
  · obtain ⟨n, A, D, p, d, qq, rfl, S, hp, hq0, hqb, hd, rfl⟩ := hp
    obtain ⟨u, v, x, rfl, du, dv, dx⟩ := three_of hv
    refine ⟨_, (pss_cons (ps_setLc (i := 3) (own := [("_law_k", 6)])  rfl sc_law_near.nd rfl rfl (sw_true rfl rfl rfl (by decide +kernel)) (pi_range1 (by rfl) (T.n "range") (pa_cons (pe_callB (call_lenK K) (by rfl) (T.n "len") PySem.boot_len (pa_cons (pv 1) pa_nil)) pa_nil)) (blkOk_by (N := N_law_near) (sc := defScope s_law_near) (by decide +kernel)) (fun _ _ _ _ _ => (pg_name (i := 6) sc_law_near.nd rfl (Or.inl rfl))) (fun _ _ _ _ _ => (pts_one (pt_val (pe_callB (cr_allK K rfl) (by rfl) (T.n "all") (by decide +kernel) (pa_cons (pe_lc (own := [("_law_one", 7)])  rfl sc_law_near.nd (pi_listK K (pe_ix (ix_seqK K) (pv 1) (pv 6) (fun _ _ => rfl))) (blkOk_by (N := N_law_near) (sc := (relS ({ kind := PySem.ScopeKind.function, names := [ (PySem.Str.ofString ".0", PySem.NameKind.local), (PySem.Str.ofString "_law_k", PySem.NameKind.local), (PySem.Str.ofString "all", PySem.NameKind.globalImplicit), (PySem.Str.ofString "_law_nearness", PySem.NameKind.free), (PySem.Str.ofString "_law_rows", PySem.NameKind.free)], isGenerator := false, isCoroutine := false, more := [] : PySem.Scope }) (defScope s_law_near))) (by decide +kernel)) (fun _ _ _ _ _ => (pg_name (i := 7) sc_law_near.nd rfl (Or.inl rfl))) (fun _ _ _ _ _ => pts_nil) (fun _ _ _ _ _ => (pe_call (ok_law_at_most T) (hr.mono (by decide)) (by rfl) (T.g 55 _ rfl) (T.F 55 _ rfl).kp (b_law_at_most T) .nil pass0 (pa_cons (pv 7) (pa_cons (pv 2) pa_nil))))) pa_nil))))) (fun _ _ _ _ _ => (pv 6)))
      (pss_cons (ps_set (i := 4) sc_law_near.nd rfl (Or.inl rfl) pe_non)
      (pss_cons (ps_try_as (i := 5) (tb := fun W => tAsg (tCallS (spNear K C) (WE W) (tCons (tVar 0) (tCons (tVar 2) tNil))) (gName 4)) (ts := fun a cls d => tAsg (tLst (tCons (tByToo C a cls d (tVar 5)) tNil)) (gName 4)) (Wout := fun _ _ _ _ => False) rfl rfl sc_law_near.nd rfl rfl ⟨rfl, by decide, Or.inl TT.gC⟩ takes0 (fun W pn xe tk _ => pss_one (ps_set (i := 4) sc_law_near.nd rfl (Or.inl rfl) (by exact (pe_callS (ok_near T TT) (hr.mono (by decide)) (by rfl) (T.g 46 _ rfl) (T.F 46 _ rfl).kp (b_near T) (fun σ => passAt tk σ) (by exact (pa_cons (pv 0) (pa_cons (pv 2) pa_nil))))))) (fun a oe cls d pn hz hf => pss_one (ps_set (i := 4) sc_law_near.nd rfl (Or.inl rfl) (pe_lst (pa_cons (pe_byToo TT hz hf (pv 5)) pa_nil)))))
      (pss_cons (ps_if (pt_cmpR (op_neK K hr.units) (pv 3) (pe_lst pa_nil) (nomark _))
       (pss_one (ps_ret (pe_call (ok_law_same0 T) (hr.mono (by decide)) (by rfl) (T.g 50 _ rfl) (T.F 50 _ rfl).kp (b_law_same T) .nil pass0 (pa_cons (pv 4) (pa_cons (pe_ix (ix_seqK K) (pv 3) pe_int (fun _ _ => rfl)) pa_nil)))))
       pss_nil)
      (pss_cons (ps_if (pt_val (pe_callB (call_isiQ K) (by rfl) (T.n "isinstance") (by decide +kernel) (pa_cons (pv 4) (pa_cons (pe_bltn (v := .ty "list") (by rfl) (T.n "list") (by decide +kernel) rfl) pa_nil))))
       (pss_one (ps_ret (pe_call (ok_law_same1 T) (hr.mono (by decide)) (by rfl) (T.g 50 _ rfl) (T.F 50 _ rfl).kp (b_law_same T) .nil pass0 (pa_cons (pv 4) (pa_cons (pe_lst (pa_cons pe_int pa_nil)) pa_nil)))))
       pss_nil)
      (pss_one (ps_ret (pe_and (pe_callB (call_isiQ K) (by rfl) (T.n "isinstance") (by decide +kernel) (pa_cons (pv 4) (pa_cons (pe_bltn (v := .ty "int") (by rfl) (T.n "int") (by decide +kernel) rfl) pa_nil))) (pe_and (pe_cmpR op_ge (pv 4) (pe_callB (call_lenK K) (by rfl) (T.n "len") PySem.boot_len (pa_cons (pv 1) pa_nil)) (nomark _)) (pe_one (pe_cmpR op_lt (pv 4) pe_int (nomark _)))))))))))), ?_⟩
    have h5 := S.tb.n5
    have hnear : ∀ k, k < 25 → (((rg n).all fun j => decide (d k j ≤ qq)) = true ↔ NearAt n (gap n A (En0 n (pw n A p)) k) qq) := fun k hk => by
      rw [List.all_eq_true]
      constructor
      · intro h j hj
        have := of_decide_eq_true (h j (List.mem_range.mpr hj))
        rw [(hd k j hk hj).2] at this; exact this
      · intro h j hj
        have hj := List.mem_range.mp hj
        exact decide_eq_true (by rw [(hd k j hk hj).2]; exact h j hj)
    have hl := p_lenL (K := K) (σ := start N_law_near [u, v, x]) (p_var (i := 1) rfl dv)
    rw [tab_len] at hl
    -- fine
    refine s_set (K := K) (d := .list (pick 25 (fun k => (rg n).all fun j => decide (d k j ≤ qq)) fun k => .int (k : Int))) (En.ez (n_lc (src_r1 (n := 25) (ap_one hl) (by decide)).g (by decide) (fun k hk z H1 s1 dz => ?_) (fun k hk _ z H1 s1 dz => ?_))) fun x3 H1 s1 d3 => ?_
    · cases dz
      refine t_val (K := K) (z_all (n := n) (p := fun j => decide (d k j ≤ qq)) (En.ez ?_))
      have h := n_lcA (K := K) (σ := [some u, some v, some x, none, none, none, some (.int (k : Int)), none]) (H := H1) (vs := [7]) (j := 7) (te := tCall (spD K fun ds r => ∃ (p q : Rat) (a b : Nat), ds = [frD p, frD q] ∧ Bd a p ∧ Bd b q ∧ a + b ≤ 7000 ∧ r = .bool (decide (p ≤ q))) [] E0 (tCons (tVar 7) (tCons (tVar 2) tNil))) (gd := fun j => .bool (decide (d k j ≤ qq)))
        (src_list (p_ixL (i := k) (p_var (i := 1) rfl (L2.Dp.mono s1 dv)) (p_var (i := 6) rfl (.int _)) (tab_at hk))).g (by rw [tab_len]; omega) (fun j hj y H2 s2 dy => by
          rw [tab_len] at hj
          rw [tab_getD hj] at dy
          exact n_call (a_cons (z_var (i := 7) rfl dy) (a_one (z_var (i := 2) rfl (L2.Dp.mono (s1.trans s2) dx)))) ⟨_, _, 1600, 40, rfl, (hd k j hk hj).1, hqb, by decide, rfl⟩)
      rw [tab_len] at h
      exact h
    · cases dz
      exact (z_var (i := 6) rfl (.int _)).en
    refine s_set (K := K) z_non fun v4 H2 s2 d4 => ?_
    cases d4
    have s12 := s1.trans s2
    have zfine : ∀ {σ : L2.St} {H' : Hp}, σ[3]? = some (some x3) → Same H2 H' → Ez K (tVar 3) σ H' (.list (pick 25 (fun k => (rg n).all fun j => decide (d k j ≤ qq)) fun k => .int (k : Int))) := fun e s => z_var e (L2.Dp.mono (s2.trans s) d3)
    have hshp : SeqAt.shaped (.list (pick 25 (fun k => (rg n).all fun j => decide (d k j ≤ qq)) fun k => PyData.int (k : Int))) = true := by rw [pick_ints]; exact shp_ints.ok
    -- the test fine != []
    have ztest : ∀ {σ : L2.St} {H' : Hp}, σ[3]? = some (some x3) → Same H2 H' → Tz (tB (tOp (rNeD K) (tVar 3) (tLst tNil))) σ H' (!(pick 25 (fun k => (rg n).all fun j => decide (d k j ≤ qq)) fun k => PyData.int (k : Int)).isEmpty) := fun e s => by
      have h := z_neD (K := K) (zfine e s) (z_lst a_nil) hshp rfl
      rw [eqv_nil] at h
      exact t_val h
    have dx2 := L2.Dp.mono s12 dx
    have dv2 := L2.Dp.mono s12 dv
    have du2 := L2.Dp.mono s12 du
    -- try
    refine (?_ : tSeq _ _ _ _ _)
    refine ⟨u, rfl, x, rfl, n, A, D, p, qq, .cons du2 (.cons dx2 .nil), S, hq0, hqb, hp, fun k hk hn hno H3 s3 => ?_, fun hno H3 dd s3 hdd => ?_⟩
    · -- a number of rounds
      by_cases hk25 : k < 25
      · have hpk : ((rg n).all fun j => decide (d k j ≤ qq)) = true := (hnear k hk25).mpr hn
        have hmin := pick_min (p := fun k => (rg n).all fun j => decide (d k j ≤ qq)) (gd := fun k => PyData.int (k : Int)) hk25 hpk fun k' hk' => by
          cases e : ((rg n).all fun j => decide (d k' j ≤ qq)) with
          | false => rfl
          | true => exact absurd ((hnear k' (by omega)).mp e) (hno k' hk')
        have hne : (!(pick 25 (fun k => (rg n).all fun j => decide (d k j ≤ qq)) fun k => PyData.int (k : Int)).isEmpty) = true := by
          cases e : pick 25 (fun k => (rg n).all fun j => decide (d k j ≤ qq)) fun k => PyData.int (k : Int) with
          | nil => rw [e] at hmin; cases hmin
          | cons a l => rfl
        have zt := ztest (σ := [some u, some v, some x, some x3, some (.int (k : Int)), none, none, none]) rfl s3
        rw [hne] at zt
        refine s_if zt (fun _ H4 s4 => ?_) (fun h => by cases h)
        exact s_ret (K := K) (d := .bool true) (n_call (a_cons (z_var (i := 4) rfl (.int _)) (a_one (z_ixL (i := 0) (zfine rfl (s3.trans s4)) z_int hmin))) ⟨_, rfl, rfl⟩) fun v5 H5 s5 d5 => q v5 H5 ((s12.trans s3).trans (s4.trans s5)) (Dn.anti ((s12.trans s3).trans s4) d5)
      · have hno' : ∀ k, k < 25 → ((rg n).all fun j => decide (d k j ≤ qq)) = false := fun k' hk' => by
          cases e : ((rg n).all fun j => decide (d k' j ≤ qq)) with
          | false => rfl
          | true => exact absurd ((hnear k' hk').mp e) (hno k' (by omega))
        have zt := ztest (σ := [some u, some v, some x, some x3, some (.int (k : Int)), none, none, none]) rfl s3
        rw [pick_no hno'] at zt
        refine s_pass zt fun H4 s4 => ?_
        refine s_pass (t_val (K := K) (z_isi (z_var (σ := [some u, some v, some x, some x3, some (.int (k : Int)), none, none, none]) (i := 4) rfl (.int _)))) fun H5 s5 => ?_
        have s35 := (s3.trans s4).trans s5
        refine s_ret (K := K) (d := .bool true) (Ez.en ?_) fun v6 H6 s6 d6 => q v6 H6 ((s12.trans s35).trans s6) (Dn.anti (s12.trans s35) d6)
        refine z_andV (b := true) (c := true) (z_isi (z_var (i := 4) rfl (.int _))) fun _ => z_andV (b := true) (c := true) ?_ fun _ => ?_
        · have hl2 := z_lenL (K := K) (z_var (σ := [some u, some v, some x, some x3, some (.int (k : Int)), none, none, none]) (i := 1) rfl (L2.Dp.mono s35 dv2))
          rw [tab_len] at hl2
          have h := z_cmp (K := K) (p := fun i j => decide (j ≤ i)) (z_var (σ := [some u, some v, some x, some x3, some (.int (k : Int)), none, none, none]) (H := H5) (i := 4) rfl (.int _)) hl2
          rw [decide_eq_true (show ((25 : Nat) : Int) ≤ k by omega)] at h
          exact h
        · have h := z_cmp (K := K) (p := fun i j => decide (i < j)) (z_var (σ := [some u, some v, some x, some x3, some (.int (k : Int)), none, none, none]) (H := H5) (i := 4) rfl (.int _)) (z_int (i := 301))
          rw [decide_eq_true (show (k : Int) < 301 by omega)] at h
          exact h
    · -- too many
      refine ⟨true, TT.te, fun _ a0 ha0 => ?_, fun h => by cases h⟩
      refine ⟨.ref a0, rfl, rfl, rfl, dd, .int 300, rfl, upd_same, by show 1 ≤ sizeLine; decide, fun pp hpp => ?_⟩
      have s4 : Same H2 (upd (upd H3 dd (.xd [(("value" : Str), .int 300)])) pp (.lst [.int 300])) := (s3.trans (same_new hdd)).trans (same_new hpp)
      have dt : Dp K (upd (upd H3 dd (.xd [(("value" : Str), .int 300)])) pp (.lst [.int 300])) (.ref pp) (.list [.int 300]) := .lst (SqL.of upd_same) (.cons (.int _) .nil)
      generalize (upd (upd H3 dd (.xd [(("value" : Str), .int 300)])) pp (.lst [.int 300])) = H4 at s4 dt
      have hno' : ∀ k, k < 25 → ((rg n).all fun j => decide (d k j ≤ qq)) = false := fun k' hk' => by
        cases e : ((rg n).all fun j => decide (d k' j ≤ qq)) with
        | false => rfl
        | true => exact absurd ((hnear k' hk').mp e) (hno k' (by omega))
      have zt := ztest (σ := [some u, some v, some x, some x3, some (.ref pp), none, none, none]) rfl s4
      rw [pick_no hno'] at zt
      unfold gName
      dsimp only
      refine s_pass (σ := [some u, some v, some x, some x3, some (.ref pp), none, none, none]) zt fun H5 s5 => ?_
      refine s_if (b := true) (t_val (K := K) (z_isi (z_var (σ := [some u, some v, some x, some x3, some (.ref pp), none, none, none]) (i := 4) rfl (L2.Dp.mono s5 dt)))) (fun _ H6 s6 => ?_) (fun h => by cases h)
      have s46 := (s4.trans s5).trans s6
      exact s_ret (K := K) (d := .bool true) (n_call (a_cons (z_var (i := 4) rfl (L2.Dp.mono (s5.trans s6) dt)) (a_one (z_lst (a_one z_int)))) ⟨300, rfl, rfl⟩) fun v5 H7 s7 d7 => q v5 H7 ((s12.trans s46).trans s7) (Dn.anti (s12.trans s46) d7)
end
end Ck
end

section
set_option Elab.async false
set_option linter.all false
set_option maxRecDepth 100000
set_option maxHeartbeats 4000000
/-! the law's table. -/
namespace Ck
open PySem PySem.Spec PyProof.Rows L2
theorem sum_set : ∀ (l : List Nat) (i v : Nat), i < l.length → (l.set i v).sum + l.getD i 0 = l.sum + v
  | [], _, _, h => absurd h (Nat.not_lt_zero _)
  | a :: l, 0, v, _ => by
    rw [List.set_cons_zero, List.sum_cons, List.sum_cons]
    show v + l.sum + a = _
    omega
  | a :: l, i + 1, v, h => by
    rw [List.set_cons_succ, List.sum_cons, List.sum_cons]
    have := sum_set l i v (by simpa using h)
    show a + (l.set i v).sum + l.getD i 0 = _
    omega
theorem getD_set {l : List Nat} {i j v : Nat} (hj : j < l.length) : (l.set i v).getD j 0 = if j = i then v else l.getD j 0 := by
  rw [List.getD_eq_getElem?_getD, List.getElem?_set, List.getD_eq_getElem?_getD]
  by_cases e : i = j
  · subst e
    rw [if_pos rfl, if_pos hj, if_pos rfl]; rfl
  · rw [if_neg e, if_neg (Ne.symm e)]
theorem sum_rg : ∀ (l : List Nat), ((l.sum : Nat) : Rat) = sm (rg l.length) fun i => (((l.getD i 0 : Nat)) : Rat) := fun l => by
  rw [sm_idx (l := l) (f := fun x : Nat => ((x : Nat) : Rat))]
  induction l with
  | nil => rfl
  | cons a l ih => rw [List.sum_cons, sm_cons, Rat.natCast_add, ih]
theorem vi_set {l : List Nat} {i v : Nat} : (vi l).set i (.int ((v : Nat) : Int)) = vi (l.set i v) := by
  unfold vi; rw [List.map_set]
theorem rep_vi (c : Nat) : (List.replicate c [V.int 0]).flatten = vi (List.replicate c 0) := by
  unfold vi
  induction c with
  | zero => rfl
  | succ c ih => rw [List.replicate_succ, List.flatten_cons, ih, List.replicate_succ]; rfl
theorem sx_of {ja : Addr} {H0 H : Hp} (s : Same (hid ja H0) H) {o : HO} (h : H ja = some o) : SameX ja H0 H :=
  ⟨fun a x ne e => s a x (by rw [hid_ne ne]; exact e), fun a e => by
    have ne : a ≠ ja := fun z => by rw [z, h] at e; cases e
    have := s.free e
    rw [hid_ne ne] at this; exact this⟩
theorem JG.some {H : Hp} {ja : Addr} {Z : Nat} (h : JG H ja Z) : ∃ o, H ja = some o := let ⟨_, _, _, e, _⟩ := h; ⟨_, e⟩
theorem JG.up {H H' : Hp} {ja : Addr} {Z : Nat} (h : JG H ja Z) (e : H' ja = H ja) : JG H' ja Z := let ⟨a, b, z, e', r⟩ := h; ⟨a, b, z, by rw [e]; exact e', r⟩
theorem JG.le {H : Hp} {ja : Addr} {Z Z' : Nat} (h : JG H ja Z) (e : Z ≤ Z') : JG H ja Z' := let ⟨a, b, z, e', r1, r2, r3, r4⟩ := h; ⟨a, b, z, e', r1, r2, r3, by omega⟩
/-- columns that are made -/
structure Cols (Hb : Hp) (ja ca : Addr) (m c b : Nat) (pas : Nat → Addr) (N : Nat → List Nat) (H : Hp) : Prop where
  sb : Same Hb H
  top : H ca = some (.lst ((rg m).map fun k => V.ref (pas k)))
  col : ∀ k, k < m → H (pas k) = some (.lst (vi (N k)))
  caJ : ca ≠ ja
  paJ : ∀ k, k < m → pas k ≠ ja
  fc : Hb ca = none
  fj : Hb ja = none
  len : ∀ k, k < m → (N k).length = c
  sum : ∀ k, k < m → (N k).sum ≤ b
section
variable {Hb H H' : Hp} {ja ca p : Addr} {m c b : Nat} {pas : Nat → Addr} {N : Nat → List Nat}
theorem Cols.x (C : Cols Hb ja ca m c b pas N H) (h : ∀ a o, a ≠ ja → a ≠ p → H a = some o → H' a = some o) (h1 : ∀ k, k < m → pas k ≠ p) (h2 : ca ≠ p) (h3 : Hb p = none) : Cols Hb ja ca m c b pas N H' :=
  ⟨fun a o e => h a o (ne_of_none e C.fj) (ne_of_none e h3) (C.sb _ _ e), h _ _ C.caJ h2 C.top, fun k hk => h _ _ (C.paJ k hk) (h1 k hk) (C.col k hk), C.caJ, C.paJ, C.fc, C.fj, C.len, C.sum⟩
theorem Cols.sx (C : Cols Hb ja ca m c b pas N H) (s : SameX ja H H') : Cols Hb ja ca m c b pas N H' :=
  ⟨fun a o e => s.1 a o (ne_of_none e C.fj) (C.sb _ _ e), s.1 _ _ C.caJ C.top, fun k hk => s.1 _ _ (C.paJ k hk) (C.col k hk), C.caJ, C.paJ, C.fc, C.fj, C.len, C.sum⟩
theorem Cols.same (C : Cols Hb ja ca m c b pas N H) (s : Same H H') : Cols Hb ja ca m c b pas N H' := C.sx (.of s)
end
section
variable {P : Program} {w : World} {K : Fg} {mg : Str → Option Value} {base : Heap}
theorem g_name {i : Nat} {v : V} {σ : L2.St} {H : Hp} {Q : L2.St → Hp → Prop} (h : Q (σ.set i (some v)) H) : gName i v σ H Q := h
/-- a drop, within an expression -/
theorem x_drop {σ : L2.St} {H : Hp} {m : Nat} {tmany : TE} {ja : Addr} {many Z : Nat} {Q : VK} (hm : σ[m]? = some (some (.ref ja))) (hmany : Ez K tmany σ H (.int (many : Int))) (h0 : 0 < many) (h9 : many < 1000) (J : JG H ja Z) (hZ : Z ≤ 100000)
    (k : ∀ (r : Nat) H', r < many → SameX ja H H' → JG H' ja (Z + 1) → Q (.int (r : Int)) H') : tCall (spDrop K) [] E0 (tCons (tVar m) (tCons tmany tNil)) σ H Q :=
  ⟨.ref ja, hm, hmany H (Same.refl _) _ fun v H2 s2 dv => by
    cases dv
    exact ⟨ja, many, Z, rfl, h0, h9, J.mono s2, hZ, fun r H' hr sx J' => k r H' hr ((SameX.of s2).trans sx) J'⟩⟩
abbrev s_law_table : Stmt := topS 73
abbrev N_law_table : List Str := ["_law_jug_here", "_law_casks", "_law_below", "_law_columns", "_law_cask", "_law_parts", "_law_way", "_law_goal", "_law_some", "_law_other", "_law_rows", "_law_i", "_law_column"]
theorem sc_law_table : FnScope N_law_table ["_law_jug_here", "_law_casks"] (defScope s_law_table) := ⟨rfl, rfl, rfl, by decide +kernel, rfl, by decide +kernel, by decide +kernel⟩
theorem b_law_table (T : Txt K mg) : Binds K (T.fd 53) ["_law_jug_here", "_law_casks"] [] := (T.F 53 _ rfl).binds (ps := ["_law_jug_here", "_law_casks"]) fun _ _ _ _ _ _ us hl => match us, hl with | [_, _], _ => rfl

def spTable (K : Fg) : Sp := fun vs H Q E => ∃ (ja : Addr) (c Z : Nat), vs = [.ref ja, .int (c : Int)] ∧ 2 ≤ c ∧ c ≤ 5 ∧ JG H ja Z ∧ Z ≤ 1000 ∧
  ∀ (A : Mx) (D : Nat) v H', S6 c A D → SameX ja H H' → JG H' ja (Z + 100) → Dp K (hid ja H') v (tabD c A) → Q v H'
theorem ok_law_table (T : Txt K mg) : FnOk P w K mg base CX0 2 (T.fa 53) (T.fd 53) ["_law_jug_here", "_law_casks"] (spTable K) := by
  refine (T.F 53 _ rfl).ok sc_law_table (fun vs H Q E h => ?_) (fun cdv A0 outer s H vs Q E hr h => ?_)
  · obtain ⟨_, _, _, rfl, _⟩ := h; rfl
  · obtain ⟨ja, c, Z, rfl, h2, h5, J, hZ, q⟩ := h
    refine ⟨_, (pss_cons (ps_set (i := 2) sc_law_table.nd rfl (Or.inr rfl) (pe_op op_add pe_int (pe_call (ok_law_drop T) (hr.mono (by decide)) (by rfl) (T.g 48 _ rfl) (T.F 48 _ rfl).kp (b_law_drop T) .nil pass0 (pa_cons (pv 0) (pa_cons pe_int pa_nil)))))
      (pss_cons (ps_set (i := 3) sc_law_table.nd rfl (Or.inl rfl) (pe_lst pa_nil))
      (pss_cons (ps_for PassesOwn.never rfl (pi_range1 (by rfl) (T.n "range") (pa_cons (pv 1) pa_nil)) (pg_name (i := 4) sc_law_table.nd rfl (Or.inl rfl))
       (pss_cons (ps_set (i := 5) sc_law_table.nd rfl (Or.inl rfl) (pe_op op_rep (pe_lst (pa_cons pe_int pa_nil)) (pv 1)))
       (pss_cons (ps_set (i := 6) sc_law_table.nd rfl (Or.inl rfl) (pe_call (ok_law_drop T) (hr.mono (by decide)) (by rfl) (T.g 48 _ rfl) (T.F 48 _ rfl).kp (b_law_drop T) .nil pass0 (pa_cons (pv 0) (pa_cons pe_int pa_nil))))
       (pss_cons (ps_set (i := 7) sc_law_table.nd rfl (Or.inl rfl) (pe_ix (ix_seqK K) (pe_lst (pa_cons (pe_op op_mod (pe_callTy call_int1 (by rfl) (T.n "int") (by decide +kernel) (pa_cons (pe_op op_add (pv 4) pe_int) pa_nil)) (pv 1)) (pa_cons (pv 4) (pa_cons (pe_call (ok_law_drop T) (hr.mono (by decide)) (by rfl) (T.g 48 _ rfl) (T.F 48 _ rfl).kp (b_law_drop T) .nil pass0 (pa_cons (pv 0) (pa_cons (pv 1) pa_nil))) pa_nil)))) (pe_call (ok_law_drop T) (hr.mono (by decide)) (by rfl) (T.g 48 _ rfl) (T.F 48 _ rfl).kp (b_law_drop T) .nil pass0 (pa_cons (pv 0) (pa_cons pe_int pa_nil))) (fun _ _ => rfl)))
       (pss_cons (ps_set (i := 8) sc_law_table.nd rfl (Or.inl rfl) (pe_ix (ix_seqK K) (pe_lst (pa_cons (pv 2) (pa_cons (pv 2) (pa_cons (pv 2) (pa_cons (pe_call (ok_law_drop T) (hr.mono (by decide)) (by rfl) (T.g 48 _ rfl) (T.F 48 _ rfl).kp (b_law_drop T) .nil pass0 (pa_cons (pv 0) (pa_cons (pe_op op_add (pv 2) pe_int) pa_nil))) (pa_cons (pe_call (ok_law_drop T) (hr.mono (by decide)) (by rfl) (T.g 48 _ rfl) (T.F 48 _ rfl).kp (b_law_drop T) .nil pass0 (pa_cons (pv 0) (pa_cons (pe_op op_add (pv 2) pe_int) pa_nil))) (pa_cons pe_int pa_nil))))))) (pv 6) (fun _ _ => rfl)))
       (pss_cons (ps_asg (pv 8) (pg_sub (pv 5) (pv 7) set_list))
       (pss_cons (ps_set (i := 9) sc_law_table.nd rfl (Or.inl rfl) (pe_call (ok_law_drop T) (hr.mono (by decide)) (by rfl) (T.g 48 _ rfl) (T.F 48 _ rfl).kp (b_law_drop T) .nil pass0 (pa_cons (pv 0) (pa_cons (pv 1) pa_nil))))
       (pss_cons (ps_if (PW.pt (pw_and (pt_cmpR op_gt (pv 6) pe_int (nomark _)) (pw_and (pt_cmpR op_lt (pv 6) pe_int (nomark _)) (pw_and1 (pt_cmpR (op_neK K hr.units) (pv 9) (pv 7) (nomark _))))))
        (pss_one (ps_asg (pe_ix (ix_seqK K) (pe_lst (pa_cons (pe_op op_sub (pv 2) (pv 8)) (pa_cons (pe_call (ok_law_drop T) (hr.mono (by decide)) (by rfl) (T.g 48 _ rfl) (T.F 48 _ rfl).kp (b_law_drop T) .nil pass0 (pa_cons (pv 0) (pa_cons (pe_op op_add (pe_op op_sub (pv 2) (pv 8)) pe_int) pa_nil))) pa_nil))) (pe_op op_sub (pv 6) pe_int) (fun _ _ => rfl)) (pg_sub (pv 5) (pv 9) set_list)))
        pss_nil)
       (pss_one (ps_expr (pe_appK K (pv 3) (pa_cons (pv 5) pa_nil))))))))))))
      (pss_cons (ps_set (i := 10) sc_law_table.nd rfl (Or.inl rfl) (pe_lst pa_nil))
      (pss_cons (ps_for PassesOwn.never rfl (pi_range1 (by rfl) (T.n "range") (pa_cons (pv 1) pa_nil)) (pg_name (i := 11) sc_law_table.nd rfl (Or.inr rfl))
       (pss_one (ps_expr (pe_appK K (pv 10) (pa_cons (pe_callTy (call_tupleK K) (by rfl) (T.n "tuple") (by decide +kernel) (pa_cons (pe_lc (own := [("_law_column", 12)])  rfl sc_law_table.nd (pi_listK K (pv 3)) (blkOk_by (N := N_law_table) (sc := defScope s_law_table) (by decide +kernel)) (fun _ _ _ _ _ => (pg_name (i := 12) sc_law_table.nd rfl (Or.inl rfl))) (fun _ _ _ _ _ => pts_nil) (fun _ _ _ _ _ => (pe_call (ok_law_low T) (hr.mono (by decide)) (by rfl) (T.g 49 _ rfl) (T.F 49 _ rfl).kp (b_law_low T) .nil pass0 (pa_cons (pe_ix (ix_seqK K) (pv 12) (pv 11) (fun _ _ => rfl)) (pa_cons (pv 2) pa_nil))))) pa_nil)) pa_nil)))))
      (pss_one (ps_ret (pe_callTy (call_tupleK K) (by rfl) (T.n "tuple") (by decide +kernel) (pa_cons (pv 10) pa_nil))))))))), ?_⟩
    have hcp : (0 : Int) < (c : Int) := by omega
    -- below
    refine (?_ : tSeq _ _ _ _ _)
    refine (x_drop (K := K) (σ := start N_law_table [.ref ja, .int (c : Int)]) (m := 0) (many := 6) rfl z_int (by decide) (by decide) J (by omega) fun b0 H1 hb0 sx1 J1 => ?_)
    refine ⟨1, (b0 : Int), rfl, rfl, ?_⟩
    obtain ⟨b, hb⟩ : ∃ b : Nat, b = 1 + b0 := ⟨_, rfl⟩
    have eb : (1 : Int) + (b0 : Int) = (b : Int) := by omega
    refine g_name ?_
    dsimp only
    rw [eb]
    -- columns = []
    refine s_setnil fun ca nca => ?_
    have fj : hid ja H ja = none := hid_self
    obtain ⟨oj, hoj⟩ := J1.some
    have caJ : ca ≠ ja := fun e => by rw [e, hoj] at nca; cases nca
    have sb1 : Same (hid ja H) H1 := fun a o e => sx1.1 a o (ne_of_none e fj) (hid_same _ _ e)
    have C0 : Cols (hid ja H) ja ca 0 c b (fun _ => ca) (fun _ => []) (upd H1 ca (.lst [])) :=
      ⟨sb1.trans (same_new nca), upd_same, fun k hk => absurd hk (Nat.not_lt_zero _), caJ, fun k hk => absurd hk (Nat.not_lt_zero _), sb1.free nca, fj, fun k hk => absurd hk (Nat.not_lt_zero _), fun k hk => absurd hk (Nat.not_lt_zero _)⟩
    have J1' : JG (upd H1 ca (.lst [])) ja (Z + 1) := J1.mono (same_new nca)
    refine s_forHS (K := K) (Hb := hid ja H) (n := c) (it := fun i => .int (i : Int)) (fun k σ' H' => ∃ (pas : Nat → Addr) (N : Nat → List Nat) (y4 y5 y6 y7 y8 y9 : Option V), σ' = [some (.ref ja), some (.int (c : Int)), some (.int (b : Int)), some (.ref ca), y4, y5, y6, y7, y8, y9, none, none, none] ∧ Cols (hid ja H) ja ca k c b pas N H' ∧ JG H' ja (Z + 1 + 10 * k))
      (srcH_r1 (ap_one (p_var (i := 1) rfl (.int _))) (by omega)) ⟨_, _, none, none, none, none, none, none, rfl, C0, J1'⟩ (fun i σ' H' p => ?_) (fun k σ' H' hk p x4 dx4 => ?_) (fun σ' H' p => ?_)
    · obtain ⟨_, _, _, _, _, _, _, _, _, C, _⟩ := p; exact C.sb
    · obtain ⟨pas, N, y4, y5, y6, y7, y8, y9, rfl, C, J⟩ := p
      cases dx4
      -- parts
      refine (?_ : tSeq _ _ _ _ _)
      refine ⟨by show 1 ≤ sizeLine; decide, fun q0 hq0 => ⟨.int (c : Int), rfl, q0, (c : Int), [.int 0], rfl, rfl, upd_same, by omega, by omega, ?_, fun pp hpp => ?_⟩⟩
      · show 1 * (c : Int).toNat ≤ sizeLine
        exact Nat.le_trans (show 1 * (c : Int).toNat ≤ 5 by omega) (by decide)
      rw [show ((c : Int).toNat) = c by omega, rep_vi]
      refine g_name ?_
      dsimp only
      have Ca := C.same (same_new (o := .lst [.int 0]) hq0)
      have Ja := J.mono (same_new (o := .lst [.int 0]) hq0)
      have hbp := Ca.sb.free hpp
      have npJ : pp ≠ ja := fun e => by obtain ⟨o, ho⟩ := Ja.some; rw [e, ho] at hpp; cases hpp
      have npC : ca ≠ pp := fun e => by have := Ca.top; rw [e, hpp] at this; cases this
      have npP : ∀ t, t < k → pas t ≠ pp := fun t ht e => by have := Ca.col t ht; rw [e, hpp] at this; cases this
      have Cb := Ca.same (same_new (o := .lst (vi (List.replicate c 0))) hpp)
      have Jb := Ja.mono (same_new (o := .lst (vi (List.replicate c 0))) hpp)
      have hp0 : (upd (upd H' q0 (.lst [.int 0])) pp (.lst (vi (List.replicate c 0)))) pp = some (.lst (vi (List.replicate c 0))) := upd_same
      generalize (upd (upd H' q0 (.lst [.int 0])) pp (.lst (vi (List.replicate c 0)))) = H2 at Cb Jb hp0
      clear Ca Ja hpp hq0 C J
      -- way
      refine s_drop (m := 0) (i := 6) (many := 6) rfl z_int (by decide) (by decide) Jb (by omega) fun way H3 hway sx3 J3 => ?_
      have C3 := Cb.sx sx3
      have hp3 := sx3.1 _ _ npJ hp0
      clear Cb Jb hp0
      -- goal
      refine (?_ : tSeq _ _ _ _ _)
      have z1 : Ez K (tOp (rI (fun _ j => 0 < j) fun i j => .int (i % j)) (tCB (fun xs H Q => (∃ i, xs = [.int i] ∧ Q (.int i) H) ∨ ∃ k, xs = [.bl k] ∧ Q (.int (if k = true then 1 else 0)) H) (tCons (tOp (rI0 fun i j => .int (i + j)) (tVar 4) (tC (.int 1))) tNil)) (tVar 1)) [some (.ref ja), some (.int (c : Int)), some (.int (b : Int)), some (.ref ca), some (.int (k : Int)), some (.ref pp), some (.int (way : Int)), y7, y8, y9, none, none, none] H3 (.int (((k + 1) % c : Nat) : Int)) := by
        rw [Int.natCast_emod, Int.natCast_add]
        exact z_mod (z_intI (z_add (z_var (i := 4) rfl (.int _)) z_int)) (z_var (i := 1) rfl (.int _)) hcp
      refine z1 H3 (Same.refl _) _ fun v1 H4 s4 d1 => ?_
      cases d1
      refine ⟨.int (k : Int), rfl, ?_⟩
      refine x_drop (K := K) (m := 0) (many := c) rfl (z_var (i := 1) rfl (.int _)) (by omega) (by omega) (J3.mono s4) (by omega) fun g3 H5 hg3 sx5 J5 => ?_
      refine ⟨by show 3 ≤ sizeLine; decide, fun q1 hq1 => ?_⟩
      have hq1J : q1 ≠ ja := fun e => by obtain ⟨o, ho⟩ := J5.some; rw [e, ho] at hq1; cases hq1
      refine x_drop (K := K) (m := 0) (many := 3) rfl z_int (by decide) (by decide) (J5.mono (same_new hq1)) (by omega) fun gi H6 hgi sx6 J6 => ?_
      have sx36 : SameX ja H3 H6 := ((SameX.of s4).trans sx5).trans ((SameX.of (same_new hq1)).trans sx6)
      have hl6 : H6 q1 = some (.lst [.int (((k + 1) % c : Nat) : Int), .int (k : Int), .int (g3 : Int)]) := sx6.1 _ _ hq1J upd_same
      obtain ⟨goal, hgoal, hgat⟩ : ∃ goal : Nat, goal < c ∧ ([.int (((k + 1) % c : Nat) : Int), .int (k : Int), .int (g3 : Int)] : List V)[gi]? = some (.int (goal : Int)) := by
        have : gi = 0 ∨ gi = 1 ∨ gi = 2 := by omega
        rcases this with rfl | rfl | rfl
        · exact ⟨_, Nat.mod_lt _ (by omega), rfl⟩
        · exact ⟨k, hk, rfl⟩
        · exact ⟨g3, hg3, rfl⟩
      refine .inl ⟨q1, _, (gi : Int), .int (goal : Int), rfl, rfl, SqL.of hl6, atI_of hgat, ?_⟩
      refine g_name ?_
      dsimp only
      have C6 := C3.sx sx36
      have hp6 := sx36.1 _ _ npJ hp3
      clear C3 hp3 J3 J5 hl6 hgat hq1
      -- some
      refine (?_ : tSeq _ _ _ _ _)
      have zb1 : ∀ {H' : Hp} {y8 : Option V}, Ez K (tOp (rI0 fun i j => .int (i + j)) (tVar 2) (tC (.int 1))) [some (.ref ja), some (.int (c : Int)), some (.int (b : Int)), some (.ref ca), some (.int (k : Int)), some (.ref pp), some (.int (way : Int)), some (.int (goal : Int)), y8, y9, none, none, none] H' (.int ((b + 1 : Nat) : Int)) := by
        intro H' y8
        rw [Int.natCast_add]
        exact z_add (z_var (i := 2) rfl (.int _)) z_int
      refine ⟨.int (b : Int), rfl, .int (b : Int), rfl, .int (b : Int), rfl, ?_⟩
      refine x_drop (K := K) (m := 0) (many := b + 1) rfl zb1 (by omega) (by omega) J6 (by omega) fun s3 H7 hs3 sx7 J7 => ?_
      refine x_drop (K := K) (m := 0) (many := b + 1) rfl zb1 (by omega) (by omega) J7 (by omega) fun s4 H8 hs4 sx8 J8 => ?_
      refine ⟨by show 6 ≤ sizeLine; decide, fun q2 hq2 => ?_⟩
      refine ⟨.int (way : Int), rfl, ?_⟩
      obtain ⟨so, hso, hsat⟩ : ∃ so : Nat, so ≤ b ∧ ([.int (b : Int), .int (b : Int), .int (b : Int), .int (s3 : Int), .int (s4 : Int), .int 0] : List V)[way]? = some (.int (so : Int)) := by
        have : way = 0 ∨ way = 1 ∨ way = 2 ∨ way = 3 ∨ way = 4 ∨ way = 5 := by omega
        rcases this with rfl | rfl | rfl | rfl | rfl | rfl
        · exact ⟨b, Nat.le_refl _, rfl⟩
        · exact ⟨b, Nat.le_refl _, rfl⟩
        · exact ⟨b, Nat.le_refl _, rfl⟩
        · exact ⟨s3, by omega, rfl⟩
        · exact ⟨s4, by omega, rfl⟩
        · exact ⟨0, Nat.zero_le _, rfl⟩
      refine .inl ⟨q2, _, (way : Int), .int (so : Int), rfl, rfl, SqL.of upd_same, atI_of hsat, ?_⟩
      refine g_name ?_
      dsimp only
      have sx69 := (sx7.trans sx8).trans (SameX.of (same_new (o := .lst [.int (b : Int), .int (b : Int), .int (b : Int), .int (s3 : Int), .int (s4 : Int), .int 0]) hq2))
      have C9 := C6.sx sx69
      have hp9 := sx69.1 _ _ npJ hp6
      have J9 := J8.mono (same_new (o := .lst [.int (b : Int), .int (b : Int), .int (b : Int), .int (s3 : Int), .int (s4 : Int), .int 0]) hq2)
      generalize (upd H8 q2 (.lst [.int (b : Int), .int (b : Int), .int (b : Int), .int (s3 : Int), .int (s4 : Int), .int 0])) = H9 at C9 hp9 J9
      clear C6 hp6 J6 J7 J8 hsat hq2 sx69
      -- parts[goal] = some
      refine (?_ : tSeq _ _ _ _ _)
      have hrl : (List.replicate c 0).length = c := List.length_replicate
      refine ⟨.int (so : Int), rfl, .ref pp, rfl, .int (goal : Int), rfl, pp, _, (goal : Int), goal, rfl, rfl, hp9, ixN_nat (by rw [vi_len, hrl]; exact hgoal), ?_⟩
      rw [vi_set]
      have C10 : Cols (hid ja H) ja ca k c b pas N (upd H9 pp (.lst (vi ((List.replicate c 0).set goal so)))) := C9.x (p := pp) (fun a o _ h e => by rw [upd_ne h]; exact e) npP npC hbp
      have J10 : JG (upd H9 pp (.lst (vi ((List.replicate c 0).set goal so)))) ja _ := J9.up (upd_ne (Ne.symm npJ))
      have hp10 : (upd H9 pp (.lst (vi ((List.replicate c 0).set goal so)))) pp = some (.lst (vi ((List.replicate c 0).set goal so))) := upd_same
      have hsum1 : ((List.replicate c 0).set goal so).sum = so := by
        have h := sum_set (List.replicate c 0) goal so (by rw [hrl]; exact hgoal)
        have h0 : (List.replicate c 0).getD goal 0 = 0 := by
          rw [List.getD_eq_getElem?_getD, List.getElem?_replicate, if_pos hgoal]; rfl
        have h1 : (List.replicate c 0).sum = 0 := by simp
        omega
      generalize (upd H9 pp (.lst (vi ((List.replicate c 0).set goal so)))) = H10 at C10 hp10 J10
      dsimp only
      clear C9 hp9 J9
      -- other
      refine s_drop (m := 0) (i := 9) (many := c) rfl (z_var (i := 1) rfl (.int _)) (by omega) (by omega) J10 (by omega) fun o H11 ho sx11 J11 => ?_
      have C11 := C10.sx sx11
      have hp11 := sx11.1 _ _ npJ hp10
      clear C10 hp10 J10
      -- the second share
      refine s_ifX (b := decide (2 < (way : Int)) && (decide ((way : Int) < 5) && !decide ((o : Int) = (goal : Int)))) (fun σ12 H12 => ∃ L : List Nat, σ12 = [some (.ref ja), some (.int (c : Int)), some (.int (b : Int)), some (.ref ca), some (.int (k : Int)), some (.ref pp), some (.int (way : Int)), some (.int (goal : Int)), some (.int (so : Int)), some (.int (o : Int)), none, none, none] ∧ Cols (hid ja H) ja ca k c b pas N H12 ∧ JG H12 ja (Z + 1 + 10 * k + 7) ∧ H12 pp = some (.lst (vi L)) ∧ L.length = c ∧ L.sum ≤ b)
        (t_and (t_val (K := K) (z_cmp (p := fun i j => decide (j < i)) (z_var (i := 6) rfl (.int _)) z_int)) fun _ => t_and (t_val (K := K) (z_cmp (p := fun i j => decide (i < j)) (z_var (i := 6) rfl (.int _)) z_int)) fun _ => t_val (K := K) (z_neI (z_var (i := 9) rfl (.int _)) (z_var (i := 7) rfl (.int _)))) (fun hbt H12 s12 Nn hN => ?_) (fun hbt H12 s12 Nn hN => ?_) (fun σ12 H12 p12 => ?_)
      · obtain ⟨hb1, hb2⟩ := Bool.and_eq_true_iff.mp hbt
        obtain ⟨hb2, hb3⟩ := Bool.and_eq_true_iff.mp hb2
        have hw1 : 2 < way := by have := of_decide_eq_true hb1; omega
        have hw2 : way < 5 := by have := of_decide_eq_true hb2; omega
        have hog : o ≠ goal := fun e => by rw [e, decide_eq_true rfl] at hb3; cases hb3
        have C12 := C11.same s12
        have J12 := J11.mono s12
        have hp12 := s12 _ _ hp11
        -- [below - some, drop][way - 3]
        have zbs : ∀ {H' : Hp}, Ez K (tOp (rI0 fun i j => .int (i - j)) (tVar 2) (tVar 8)) [some (.ref ja), some (.int (c : Int)), some (.int (b : Int)), some (.ref ca), some (.int (k : Int)), some (.ref pp), some (.int (way : Int)), some (.int (goal : Int)), some (.int (so : Int)), some (.int (o : Int)), none, none, none] H' (.int ((b - so : Nat) : Int)) := by
          intro H'
          have h := z_sub (K := K) (z_var (σ := [some (.ref ja), some (.int (c : Int)), some (.int (b : Int)), some (.ref ca), some (.int (k : Int)), some (.ref pp), some (.int (way : Int)), some (.int (goal : Int)), some (.int (so : Int)), some (.int (o : Int)), none, none, none]) (H := H') (i := 2) rfl (.int (b : Int))) (z_var (i := 8) rfl (.int (so : Int)))
          rw [show (b : Int) - (so : Int) = ((b - so : Nat) : Int) by omega] at h
          exact h
        have zbs1 : ∀ {H' : Hp}, Ez K (tOp (rI0 fun i j => .int (i + j)) (tOp (rI0 fun i j => .int (i - j)) (tVar 2) (tVar 8)) (tC (.int 1))) [some (.ref ja), some (.int (c : Int)), some (.int (b : Int)), some (.ref ca), some (.int (k : Int)), some (.ref pp), some (.int (way : Int)), some (.int (goal : Int)), some (.int (so : Int)), some (.int (o : Int)), none, none, none] H' (.int ((b - so + 1 : Nat) : Int)) := by
          intro H'
          rw [Int.natCast_add]
          exact z_add zbs z_int
        refine zbs H12 (Same.refl _) _ fun v1 H13 s13 d1 => ?_
        cases d1
        refine x_drop (K := K) (m := 0) (many := b - so + 1) rfl zbs1 (by omega) (by omega) (J12.mono s13) (by omega) fun r2 H14 hr2 sx14 J14 => ?_
        refine ⟨by show 2 ≤ sizeLine; decide, fun q3 hq3 => ?_⟩
        have hq3J : q3 ≠ ja := fun e => by obtain ⟨o, ho⟩ := J14.some; rw [e, ho] at hq3; cases hq3
        refine ⟨.int (way : Int), rfl, (way : Int), 3, rfl, rfl, ?_⟩
        obtain ⟨sc, hsc, hscat⟩ : ∃ sc : Nat, sc ≤ b - so ∧ ([.int ((b - so : Nat) : Int), .int (r2 : Int)] : List V)[way - 3]? = some (.int (sc : Int)) := by
          have : way = 3 ∨ way = 4 := by omega
          rcases this with rfl | rfl
          · exact ⟨b - so, Nat.le_refl _, rfl⟩
          · exact ⟨r2, by omega, rfl⟩
        refine .inl ⟨q3, _, ((way - 3 : Nat) : Int), .int (sc : Int), rfl, ?_, SqL.of upd_same, atI_of hscat, ?_⟩
        · show V.int ((way : Int) - 3) = V.int ((way - 3 : Nat) : Int)
          rw [show (way : Int) - 3 = ((way - 3 : Nat) : Int) by omega]
        have sx15 := ((SameX.of s13).trans sx14).trans (SameX.of (same_new (o := .lst [.int ((b - so : Nat) : Int), .int (r2 : Int)]) hq3))
        have C15 := C12.sx sx15
        have hp15 := sx15.1 _ _ npJ hp12
        have J15 := J14.mono (same_new (o := .lst [.int ((b - so : Nat) : Int), .int (r2 : Int)]) hq3)
        generalize (upd H14 q3 (.lst [.int ((b - so : Nat) : Int), .int (r2 : Int)])) = H15 at C15 hp15 J15
        have hl1 : ((List.replicate c 0).set goal so).length = c := by rw [List.length_set, hrl]
        refine ⟨.ref pp, rfl, .int (o : Int), rfl, pp, _, (o : Int), o, rfl, rfl, hp15, ixN_nat (by rw [vi_len, hl1]; exact ho), ?_⟩
        rw [vi_set]
        refine hN _ _ ⟨((List.replicate c 0).set goal so).set o sc, rfl, C15.x (p := pp) (fun a o _ h e => by rw [upd_ne h]; exact e) npP npC hbp, (J15.up (upd_ne (Ne.symm npJ))).le (by omega), upd_same, by rw [List.length_set, hl1], ?_⟩
        have h := sum_set ((List.replicate c 0).set goal so) o sc (by rw [hl1]; exact ho)
        omega
      · exact hN _ _ ⟨(List.replicate c 0).set goal so, rfl, C11.same s12, (J11.mono s12).le (by omega), s12 _ _ hp11, by rw [List.length_set, hrl], by omega⟩
      · obtain ⟨L, rfl, C12, J12, hp12, hLl, hLs⟩ := p12
        -- columns.append(parts)
        have hlen : ((rg k).map fun k => V.ref (pas k)).length < sizeLine := by
          rw [List.length_map, List.length_range]; exact Nat.lt_of_lt_of_le (show k < 1000 by omega) (by decide)
        refine ⟨.ref ca, rfl, .inl ⟨rfl, _, .inl (.inl C12.top)⟩, .ref pp, rfl, ca, _, .ref pp, rfl, rfl, C12.top, hlen, ?_⟩
        have e1 : ∀ t, t < k → (if t = k then pp else pas t) = pas t := fun t ht => if_neg (by omega)
        refine ⟨fun t => if t = k then pp else pas t, fun t => if t = k then L else N t, _, _, _, _, _, _, rfl, ⟨fun a o e => ?_, ?_, fun t ht => ?_, caJ, fun t ht => ?_, C12.fc, C12.fj, fun t ht => ?_, fun t ht => ?_⟩, (J12.up (upd_ne (Ne.symm caJ))).le (by omega)⟩
        · rw [upd_ne (ne_of_none e C12.fc)]; exact C12.sb _ _ e
        · rw [upd_same]
          congr 2
          rw [show rg (k + 1) = rg k ++ [k] from List.range_succ, List.map_append]
          congr 1
          · exact List.map_congr_left fun t ht => by rw [e1 t (List.mem_range.mp ht)]
          · show [_] = [V.ref (if k = k then pp else pas k)]
            rw [if_pos rfl]
        · show upd H12 ca _ (if t = k then pp else pas t) = some (.lst (vi (if t = k then L else N t)))
          by_cases c : t = k
          · rw [if_pos c, if_pos c, upd_ne (Ne.symm npC)]; exact hp12
          · have ht' : t < k := by omega
            have hne : pas t ≠ ca := fun e => by
              have h1 := C12.col t ht'
              have h2 := C12.top
              rw [e, h2] at h1
              have h4 := HO.lst.inj (Option.some.inj h1)
              have h5 : 0 < ((rg k).map fun k => V.ref (pas k)).length := by rw [List.length_map, List.length_range]; omega
              have h6 : ∃ x, ((rg k).map fun k => V.ref (pas k))[0]? = some (V.ref x) := ⟨pas 0, by rw [List.getElem?_map, List.getElem?_range (by omega)]; rfl⟩
              obtain ⟨x, hx⟩ := h6
              rw [h4] at hx
              unfold vi at hx
              rw [List.getElem?_map] at hx
              cases hz : (N t)[0]? with
              | none => rw [hz] at hx; cases hx
              | some z => rw [hz] at hx; cases hx
            rw [if_neg c, if_neg c, upd_ne hne]; exact C12.col t ht'
        · show (if t = k then pp else pas t) ≠ ja
          split
          · exact npJ
          · exact C12.paJ t (by omega)
        · show (if t = k then L else N t).length = c
          split
          · exact hLl
          · exact C12.len t (by omega)
        · show (if t = k then L else N t).sum ≤ b
          split
          · exact hLs
          · exact C12.sum t (by omega)
    · obtain ⟨pas, N, y4, y5, y6, y7, y8, y9, rfl, C, J⟩ := p
      have hbpos : (0 : Int) < (b : Int) := by omega
      obtain ⟨A, hA⟩ : ∃ A : Mx, A = fun i j => (((((N j).getD i 0 : Nat) : Int)) : Rat) / (((b : Nat) : Int) : Rat) := ⟨_, rfl⟩
      have hAij : ∀ i j, A i j = (((((N j).getD i 0 : Nat) : Int)) : Rat) / (((b : Nat) : Int) : Rat) := fun i j => by rw [hA]
      have hbq : (0 : Rat) < (((b : Nat) : Int) : Rat) := Rat.intCast_pos.mpr hbpos
      have hmulb : ∀ i j, A i j * (((b : Nat) : Int) : Rat) = (((((N j).getD i 0 : Nat) : Int)) : Rat) := fun i j => by
        rw [hAij]
        have : (((b : Nat) : Int) : Rat) ≠ 0 := by grind
        grind
      have hS : S6 c A b := by
        have hden : ∀ i j, i < c → j < c → (A i j).den ∣ b := fun i j _ _ => den_dvd (by omega) (hmulb i j)
        refine ⟨⟨⟨fun i j _ _ => ?_, fun j hj => ?_⟩, by omega, h5, b, by omega, Nat.lt_of_le_of_lt (show b ≤ 6 by omega) (lt_pw (x := 3) (by decide) (by decide)), hden⟩, by omega, by omega, hden⟩
        · have h1 := hmulb i j
          have h2 : (0 : Rat) ≤ (((((N j).getD i 0 : Nat) : Int)) : Rat) := Rat.intCast_nonneg.mpr (by omega)
          exact (scale_iff hbq).mp (by rw [Rat.zero_mul, h1]; exact h2)
        · have h1 : col c A j * (((b : Nat) : Int) : Rat) = (((N j).sum : Nat) : Rat) := by
            unfold col
            rw [← sm_mulr, sum_rg, C.len j hj]
            refine sm_congr fun i _ => ?_
            rw [hmulb]
            exact Rat.intCast_natCast _
          have h2 : (((N j).sum : Nat) : Rat) ≤ (((b : Nat) : Int) : Rat) := by
            rw [Rat.intCast_natCast]; exact Rat.natCast_le_natCast.mpr (C.sum j hj)
          rw [← h1] at h2
          have h3 : col c A j * (((b : Nat) : Int) : Rat) ≤ 1 * (((b : Nat) : Int) : Rat) := by rw [Rat.one_mul]; exact h2
          exact (scale_iff hbq).mp h3
      have dcol : Dp K H' (.ref ca) (.list (tab c fun k => .list (di (N k)))) := by
        refine .lst (SqL.of C.top) ?_
        have h : ∀ k, k ≤ c → DpAll K H' ((rg k).map fun i => V.ref (pas i)) (tab k fun k => .list (di (N k))) := by
          intro k
          induction k with
          | zero => intro _; exact .nil
          | succ k ih =>
            intro hk
            rw [tab_succ, show rg (k + 1) = rg k ++ [k] from List.range_succ, List.map_append]
            exact DpAll.app (ih (by omega)) (DpAll.one (dp_vi (C.col k (by omega))))
        exact h c (Nat.le_refl _)
      -- rows
      refine s_setnil fun ra nra => ?_
      refine s_forHS (K := K) (Hb := H') (n := c) (it := fun i => .int (i : Int)) (fun i σ' H'' => ∃ y11 : Option V, σ' = [some (.ref ja), some (.int (c : Int)), some (.int (b : Int)), some (.ref ca), y4, y5, y6, y7, y8, y9, some (.ref ra), y11, none] ∧ LcInv K H' ra (tab i fun i => rowT c (A i)) H'') (srcH_r1 (ap_one (p_var (i := 1) rfl (.int _))) (by omega)) ⟨none, rfl, LcF.start nra⟩ (fun i σ' H' p => ?_) (fun i σ' H'' hi p x dx => ?_) (fun σ' H'' p => ?_)
      · obtain ⟨_, _, I⟩ := p; exact I.same
      · obtain ⟨y11, rfl, I⟩ := p
        cases dx
        have dcol' := L2.Dp.mono I.same dcol
        refine s_app (K := K) (m := 10) (Hb := H') rfl nra I (by rw [tab_len]; omega) (d := rowT c (A i)) (n_tuple ?_) fun H5 I5 _ => ⟨_, rfl, by rw [tab_succ]; exact I5⟩
        have h := n_lcA (K := K) (σ := [some (.ref ja), some (.int (c : Int)), some (.int (b : Int)), some (.ref ca), y4, y5, y6, y7, y8, y9, some (.ref ra), some (.int (i : Int)), none]) (H := H'') (vs := [12]) (j := 12) (te := tCall (spD K PLow) [] E0 (tCons (tOp (rIx K) (tVar 12) (tVar 11)) (tCons (tVar 2) tNil))) (gd := fun j => frD (A i j)) (src_list (p_var (i := 3) rfl dcol')).g (by rw [tab_len]; omega) (fun j hj z H6 s6 dz => by
          rw [tab_len] at hj
          rw [tab_getD hj] at dz
          have hlj := C.len j hj
          have hat : (di (N j))[i]? = some (.int (((N j).getD i 0 : Nat) : Int)) := by
            unfold di
            rw [List.getElem?_map, List.getElem?_eq_getElem (by omega), List.getD_eq_getElem?_getD, List.getElem?_eq_getElem (by omega)]; rfl
          exact n_call (a_cons (z_ixL (i := i) (z_var (i := 12) rfl dz) (z_var (i := 11) rfl (.int _)) hat) (a_one (z_var (i := 2) rfl (.int _)))) ⟨_, _, rfl, hbpos, by rw [Int.natAbs_natCast]; exact Nat.lt_of_le_of_lt (show b ≤ 6 by omega) (lt_pw (x := 3) (by decide) (by decide)), by rw [hAij]⟩)
        rw [tab_len] at h
        exact h
      · obtain ⟨y11, rfl, I⟩ := p
        refine s_ret (K := K) (d := tabD c A) (n_tupleF (z_var (i := 10) rfl (LcF.dn nra I).dp) (flats_tab fun _ => flat_rowT)) fun v H3 s3 d3 => ?_
        have sH := I.same.trans s3
        have J3 := (J.mono sH).le (show Z + 1 + 10 * c ≤ Z + 100 by omega)
        obtain ⟨a0, b0', z0, hj3, _⟩ := id J3
        exact q A b v H3 hS (sx_of (C.sb.trans sH) hj3) J3 (L2.Dp.flatHid flat_matT hj3 d3.dp)
end
end Ck
end

section
set_option Elab.async false
set_option linter.all false
set_option maxRecDepth 100000
set_option maxHeartbeats 8000000
/-! the law. -/
namespace Ck
open PySem PySem.Spec PyProof.Rows L2
theorem cutV_2 {xs : List V} : cutV xs (some 2) none = xs.drop 2 := by
  unfold cutV
  have e2 : HT.sIx xs.length xs.length none = xs.length := by unfold HT.sIx; rfl
  rw [e2]
  match xs with
  | [] => rfl
  | [a] => rfl
  | a :: b :: l =>
    have e1 : HT.sIx (a :: b :: l).length 0 (some 2) = 2 := by
      unfold HT.sIx
      simp
      try omega
    rw [e1]
    simp
theorem fr_nat (r : Nat) : frD ((r : Nat) : Rat) = .tuple [.int (r : Int), .int 1] := by
  unfold frD
  rw [Rat.num_natCast, Rat.den_natCast]; rfl
section
variable {P : Program} {w : World} {K : Fg} {mg : Str → Option Value} {base : Heap}
section
variable {σ : L2.St} {H : Hp} {ta tb : TE} {ds es : List PyData} {i j : Int}
theorem z_cat (ha : Ez K ta σ H (.list ds)) (hb : Ez K tb σ H (.list es)) (hl : ds.length + es.length ≤ 1000) : Ez K (tOp (rCatX K) ta tb) σ H (.list (ds ++ es)) := z_op ha hb fun x y H1 s dx dy Q q => by
  obtain ⟨a, xs, rfl, hs, hx⟩ := dx.isLst
  obtain ⟨b, ys, rfl, hs2, hy⟩ := dy.isLst
  refine ⟨a, b, xs, ys, rfl, rfl, hs, hs2, ?_, fun p np => q _ _ (same_new np) (.lst (SqL.of upd_same) (DpAll.mono (same_new np) (DpAll.app hx hy)))⟩
  rw [hx.len, hy.len]
  exact Nat.le_trans hl (by decide)
theorem z_slice2 (ha : Ez K ta σ H (.list ds)) : Ez K (tSl (rSlL K) ta (tPart (tC (.int 2))) tNoPart) σ H (.list (ds.drop 2)) := fun H1 s Q q => ha H1 s _ fun v H2 s2 dv => by
  obtain ⟨a, xs, rfl, hs, hx⟩ := dv.isLst
  refine ⟨2, rfl, a, xs, rfl, hs, fun p np => ?_⟩
  rw [cutV_2]
  refine q _ _ (s2.trans (same_new np)) (.lst (SqL.of upd_same) (DpAll.mono (same_new np) ?_))
  have h1 : ∀ {xs : List V} {ds : List PyData}, DpAll K H2 xs ds → DpAll K H2 (xs.drop 1) (ds.drop 1) := fun h => by
    cases h with
    | nil => exact .nil
    | cons _ h => exact h
  have h2 := h1 (h1 hx)
  rw [List.drop_drop, List.drop_drop] at h2
  exact h2
theorem z_min2 (ha : Ez K ta σ H (.int i)) (hb : Ez K tb σ H (.int j)) : Ez K (tCB (fun xs H Q => ∃ i j, xs = [.int i, .int j] ∧ Q (.int (if j < i then j else i)) H) (tCons ta (tCons tb tNil))) σ H (.int (if j < i then j else i)) := z_cb (a_cons ha (a_one hb)) fun vs H1 s dv Q q => by
  obtain ⟨x, y, rfl, dx, dy⟩ := two_of dv
  cases dx; cases dy
  exact ⟨i, j, rfl, q _ _ (Same.refl _) (.int _)⟩
end
/-- a jug is new -/
theorem jug_new {H0 H : Hp} {v : V} {a b : Int} (h : Dn K H0 H v (.list [.int a, .int b, .int 0])) (h0 : 0 ≤ b) (h1 : b < 2 ^ 82) : ∃ ja, v = .ref ja ∧ H0 ja = none ∧ JG H ja 0 := by
  cases h with
  | lst hn hs ha =>
    cases ha with
    | cons d1 d2 =>
      cases d2 with
      | cons d2 d3 =>
        cases d3 with
        | cons d3 d4 =>
          cases d4; cases d1; cases d2; cases d3
          exact ⟨_, rfl, hn, a, b, 0, hs, h0, h1, Int.le_refl _, Int.le_refl _⟩
abbrev s_law : Stmt := topS 81
abbrev N_law : List Str := ["_law_script", "_law_jug_here", "_law_table_here", "_law_steps", "_law_found", "_law_circles", "_law_powers", "_law_rows", "_law_water", "_law_cellar", "_law_cask", "_law_pairs", "_law_k", "_law_one", "_law_nearness", "_law_name", "_law_much"]
theorem sc_law : FnScope N_law ["_law_script"] (defScope s_law) := ⟨rfl, rfl, rfl, by decide +kernel, rfl, by decide +kernel, by decide +kernel⟩
theorem b_law (T : Txt K mg) : Binds K (T.fd 61) ["_law_script"] [] := (T.F 61 _ rfl).binds (ps := ["_law_script"]) fun _ _ _ _ _ _ us hl => match us, hl with | [_], _ => rfl

def spLaw (K : Fg) : Sp := fun vs H Q E => ∃ (x : V) (ns : List Int), vs = [x] ∧ Dp K H x (.list (ns.map .int)) ∧ ns.length ≤ 63 ∧ ∀ H', Q (.bl true) H'
theorem ok_law {C DD fI : Addr} (T : Txt K mg) (TT : PySem.TooX.TooTxt P K mg C DD fI) : FnOk P w K mg base CX0 12 (T.fa 61) (T.fd 61) ["_law_script"] (spLaw K) := by
  refine (T.F 61 _ rfl).ok sc_law (fun vs H Q E h => ?_) (fun cdv A0 outer s H vs Q E hr h => ?_)
  · obtain ⟨_, _, rfl, _⟩ := h; rfl
  · obtain ⟨x, ns, rfl, dx, hns, q⟩ := h
    refine ⟨_, (pss_cons (ps_set (i := 1) sc_law.nd rfl (Or.inl rfl) (pe_call (ok_law_jug T) (hr.mono (by decide)) (by rfl) (T.g 47 _ rfl) (T.F 47 _ rfl).kp (b_law_jug T) .nil pass0 (pa_cons (pe_ix (ix_seqK K) (pe_op (op_catK K) (pv 0) (pe_lst (pa_cons pe_int pa_nil))) pe_int (fun _ _ => rfl)) (pa_cons (pe_callB (call_lenK K) (by rfl) (T.n "len") PySem.boot_len (pa_cons (pv 0) pa_nil)) pa_nil))))
      (pss_cons (ps_set (i := 2) sc_law.nd rfl (Or.inr rfl) (pe_call (ok_law_table T) (hr.mono (by decide)) (by rfl) (T.g 53 _ rfl) (T.F 53 _ rfl).kp (b_law_table T) .nil pass0 (pa_cons (pv 1) (pa_cons (pe_op op_add pe_int (pe_call (ok_law_drop T) (hr.mono (by decide)) (by rfl) (T.g 48 _ rfl) (T.F 48 _ rfl).kp (b_law_drop T) .nil pass0 (pa_cons (pv 1) (pa_cons pe_int pa_nil)))) pa_nil))))
      (pss_cons (ps_set (i := 3) sc_law.nd rfl (Or.inr rfl) (pe_call (ok_period T) (hr.mono (by decide)) (by rfl) (T.g 39 _ rfl) (T.F 39 _ rfl).kp (b_period T) .nil pass0 (pa_cons (pv 2) pa_nil)))
      (pss_cons (ps_set (i := 4) sc_law.nd rfl (Or.inr rfl) (pe_call (ok_limits T) (hr.mono (by decide)) (by rfl) (T.g 43 _ rfl) (T.F 43 _ rfl).kp (b_limits T) .nil pass0 (pa_cons (pv 2) pa_nil)))
      (pss_cons (ps_set (i := 5) sc_law.nd rfl (Or.inl rfl) (pe_call (ok_rings T) (hr.mono (by decide)) (by rfl) (T.g 37 _ rfl) (T.F 37 _ rfl).kp (b_rings T) .nil pass0 (pa_cons (pv 2) pa_nil)))
      (pss_cons (ps_if (PW.pt (pw_or (pt_not (pt_val (pe_callB (call_isiQ K) (by rfl) (T.n "isinstance") (by decide +kernel) (pa_cons (pv 4) (pa_cons (pe_bltn (v := .ty "tuple") (by rfl) (T.n "tuple") (by decide +kernel) rfl) pa_nil))))) (pw_or (pt_not (pt_val (pe_callB (call_isiQ K) (by rfl) (T.n "isinstance") (by decide +kernel) (pa_cons (pv 3) (pa_cons (pe_bltn (v := .ty "int") (by rfl) (T.n "int") (by decide +kernel) rfl) pa_nil))))) (pw_or (pt_cmpR (op_neK K hr.units) (pe_callB (call_lenK K) (by rfl) (T.n "len") PySem.boot_len (pa_cons (pv 4) pa_nil)) (pv 3) (nomark _)) (pw_or1 (pt_cmpR op_lt (pv 3) pe_int (nomark _)))))))
       (pss_one (ps_ret pe_bl))
       pss_nil)
      (pss_cons (ps_set (i := 6) sc_law.nd rfl (Or.inr rfl) (pe_lc (own := [("_law_k", 12)])  rfl sc_law.nd (pi_range1 (by rfl) (T.n "range") (pa_cons pe_int pa_nil)) (blkOk_by (N := N_law) (sc := defScope s_law) (by decide +kernel)) (fun _ _ _ _ _ => (pg_name (i := 12) sc_law.nd rfl (Or.inl rfl))) (fun _ _ _ _ _ => pts_nil) (fun _ _ _ _ _ => (pe_call (ok_power T) (hr.mono (by decide)) (by rfl) (T.g 32 _ rfl) (T.F 32 _ rfl).kp (b_power T) .nil pass0 (pa_cons (pv 2) (pa_cons (pv 12) pa_nil))))))
      (pss_cons (ps_setLc (i := 7) (own := [("_law_k", 12)])  rfl sc_law.nd rfl rfl (sw_true rfl rfl rfl (by decide +kernel)) (pi_range1 (by rfl) (T.n "range") (pa_cons pe_int pa_nil)) (blkOk_by (N := N_law) (sc := defScope s_law) (by decide +kernel)) (fun _ _ _ _ _ => (pg_name (i := 12) sc_law.nd rfl (Or.inl rfl))) (fun _ _ _ _ _ => pts_nil) (fun _ _ _ _ _ => (pe_call (ok_law_distances T) (hr.mono (by decide)) (by rfl) (T.g 54 _ rfl) (T.F 54 _ rfl).kp (b_law_distances T) .nil pass0 (pa_cons (pe_ix (ix_seqK K) (pv 6) (pv 12) (fun _ _ => rfl)) (pa_cons (pe_ix (ix_seqK K) (pv 4) (pe_op op_mod (pe_callTy call_int1 (by rfl) (T.n "int") (by decide +kernel) (pa_cons (pv 12) pa_nil)) (pv 3)) (fun _ _ => rfl)) pa_nil)))))
      (pss_cons (ps_if (PW.pt (pw_or (pt_not (pt_val (pe_call (ok_law_nearer T) (hr.mono (by decide)) (by rfl) (T.g 56 _ rfl) (T.F 56 _ rfl).kp (b_law_nearer T) .nil pass0 (pa_cons (pv 2) (pa_cons (pv 4) (pa_cons (pv 7) pa_nil)))))) (pw_or1 (pt_not (pt_val (pe_call (ok_law_rings T) (hr.mono (by decide)) (by rfl) (T.g 60 _ rfl) (T.F 60 _ rfl).kp (b_law_rings T) .nil pass0 (pa_cons (pv 2) (pa_cons (pv 5) (pa_cons (pv 3) pa_nil)))))))))
       (pss_one (ps_ret pe_bl))
       pss_nil)
      (pss_cons (ps_set (i := 8) sc_law.nd rfl (Or.inl rfl) (pe_call (ok_law_jug T) (hr.mono (by decide)) (by rfl) (T.g 47 _ rfl) (T.F 47 _ rfl).kp (b_law_jug T) .nil pass0 (pa_cons (pe_ix (ix_seqK K) (pe_op (op_catK K) (pv 0) (pe_lst (pa_cons pe_int (pa_cons pe_int pa_nil)))) pe_int (fun _ _ => rfl)) (pa_cons (pe_op op_add (pe_callB (call_lenK K) (by rfl) (T.n "len") PySem.boot_len (pa_cons (pv 0) pa_nil)) pe_int) pa_nil))))
      (pss_cons (ps_set (i := 9) sc_law.nd rfl (Or.inl rfl) (pe_lst pa_nil))
      (pss_cons (ps_for PassesOwn.never rfl (pi_range1 (by rfl) (T.n "range") (pa_cons (pe_callB (call_lenK K) (by rfl) (T.n "len") PySem.boot_len (pa_cons (pv 2) pa_nil)) pa_nil)) (pg_name (i := 10) sc_law.nd rfl (Or.inl rfl))
       (pss_cons (ps_set (i := 11) sc_law.nd rfl (Or.inl rfl) (pe_lst (pa_cons (pe_tup (pa_cons pe_str (pa_cons (pe_call (ok_law_drop T) (hr.mono (by decide)) (by rfl) (T.g 48 _ rfl) (T.F 48 _ rfl).kp (b_law_drop T) .nil pass0 (pa_cons (pv 8) (pa_cons pe_int pa_nil))) pa_nil))) (pa_cons (pe_tup (pa_cons pe_str (pa_cons (pe_call (ok_law_drop T) (hr.mono (by decide)) (by rfl) (T.g 48 _ rfl) (T.F 48 _ rfl).kp (b_law_drop T) .nil pass0 (pa_cons (pv 8) (pa_cons pe_int pa_nil))) pa_nil))) pa_nil))))
       (pss_one (ps_expr (pe_appK K (pv 9) (pa_cons (pe_callTy (call_tupleK K) (by rfl) (T.n "tuple") (by decide +kernel) (pa_cons (pe_lc (own := [("_law_name", 15), ("_law_much", 16)])  rfl sc_law.nd (pi_listK K (pv 11)) (blkOk_by (N := N_law) (sc := defScope s_law) (by decide +kernel)) (fun _ _ _ _ _ => (pg_tupK K (n := 2) rfl (pgs_cons (pg_name (i := 15) sc_law.nd rfl (Or.inl rfl)) (pgs_cons (pg_name (i := 16) sc_law.nd rfl (Or.inl rfl)) pgs_nil)))) (fun _ _ _ _ _ => (pts_one (pt_cmpR op_gt (pv 16) pe_int (nomark _)))) (fun _ _ _ _ _ => (pe_tup (pa_cons (pv 15) (pa_cons (pe_tup (pa_cons (pv 16) (pa_cons pe_int pa_nil))) pa_nil))))) pa_nil)) pa_nil))))))
      (pss_cons (ps_for PassesOwn.never rfl (pi_range1 (by rfl) (T.n "range") (pa_cons (pe_callB (call_min2 rfl) (by rfl) (T.n "min") (by decide +kernel) (pa_cons pe_int (pa_cons (pe_callB (call_max2 rfl) (by rfl) (T.n "max") (by decide +kernel) (pa_cons pe_int (pa_cons (pe_op op_sub (pe_callB (call_lenK K) (by rfl) (T.n "len") PySem.boot_len (pa_cons (pv 0) pa_nil)) pe_int) pa_nil))) pa_nil))) pa_nil)) (pg_name (i := 12) sc_law.nd rfl (Or.inl rfl))
       (pss_cons (ps_set (i := 13) sc_law.nd rfl (Or.inl rfl) (pe_call (ok_law_jug T) (hr.mono (by decide)) (by rfl) (T.g 47 _ rfl) (T.F 47 _ rfl).kp (b_law_jug T) .nil pass0 (pa_cons (pe_ix (ix_seqK K) (pe_op (op_catK K) (pe_slice (sl_listK K) (pv 0) (po_some pe_int) po_none) (pe_lst (pa_cons pe_int pa_nil))) (pv 12) (fun _ _ => rfl)) (pa_cons (pe_op op_add (pv 12) pe_int) pa_nil))))
       (pss_cons (ps_set (i := 14) sc_law.nd rfl (Or.inl rfl) (pe_call (ok_law_low T) (hr.mono (by decide)) (by rfl) (T.g 49 _ rfl) (T.F 49 _ rfl).kp (b_law_low T) .nil pass0 (pa_cons (pe_op op_add pe_int (pe_call (ok_law_drop T) (hr.mono (by decide)) (by rfl) (T.g 48 _ rfl) (T.F 48 _ rfl).kp (b_law_drop T) .nil pass0 (pa_cons (pv 13) (pa_cons pe_int pa_nil)))) (pa_cons (pe_ix (ix_seqK K) (pe_lst (pa_cons pe_int (pa_cons pe_int (pa_cons pe_int (pa_cons (pe_op op_powX pe_int pe_int) pa_nil))))) (pe_call (ok_law_drop T) (hr.mono (by decide)) (by rfl) (T.g 48 _ rfl) (T.F 48 _ rfl).kp (b_law_drop T) .nil pass0 (pa_cons (pv 13) (pa_cons pe_int pa_nil))) (fun _ _ => rfl)) pa_nil))))
       (pss_one (ps_if (PW.pt (pw_or (pt_not (pt_val (pe_call (ok_law_near T TT) (hr.mono (by decide)) (by rfl) (T.g 57 _ rfl) (T.F 57 _ rfl).kp (b_law_near T) .nil pass0 (pa_cons (pv 2) (pa_cons (pv 7) (pa_cons (pv 14) pa_nil)))))) (pw_or1 (pt_not (pt_val (pe_call (ok_law_rounds T) (hr.mono (by decide)) (by rfl) (T.g 59 _ rfl) (T.F 59 _ rfl).kp (b_law_rounds T) .nil pass0 (pa_cons (pv 2) (pa_cons (pe_callTy (call_tupleK K) (by rfl) (T.n "tuple") (by decide +kernel) (pa_cons (pv 9) pa_nil)) (pa_cons (pv 5) (pa_cons (pv 13) pa_nil))))))))))
        (pss_one (ps_ret pe_bl))
        pss_nil)))))
      (pss_one (ps_ret pe_bl))))))))))))))), ?_⟩
    have zx : ∀ {σ : L2.St} {H' : Hp}, σ[0]? = some (some x) → Same H H' → Ez K (tVar 0) σ H' (.list (ns.map .int)) := fun e s => z_var e (L2.Dp.mono s dx)
    have zlen : ∀ {σ : L2.St} {H' : Hp}, σ[0]? = some (some x) → Same H H' → Ez K (tCB (rLenX K) (tCons (tVar 0) tNil)) σ H' (.int (ns.length : Int)) := fun e s => by
      have h := z_lenL (K := K) (zx e s)
      rw [List.length_map] at h; exact h
    -- what is read of the script
    have rd : ∀ (l : List Int) (i : Nat), i < l.length → ∃ c : Int, (l.map PyData.int)[i]? = some (.int c) := fun l i hi => ⟨l[i], by rw [List.getElem?_map, List.getElem?_eq_getElem hi]; rfl⟩
    -- the jug
    obtain ⟨c0, hc0⟩ := rd (ns ++ [0]) 0 (by rw [List.length_append]; simp)
    rw [List.map_append] at hc0
    refine r_call (K := K) (a_cons (z_ixL (i := 0) (z_cat (zx rfl (Same.refl _)) (z_lst (a_one (z_int (i := 0)))) (by rw [List.length_map]; simp; omega)) z_int hc0) (a_one (zlen rfl (Same.refl _)))) ⟨c0, _, rfl, rfl⟩ fun r hr2 v1 H1 s1 d1 => ?_
    obtain ⟨ja0, jb0, hb0, hb1, rfl⟩ := hr2
    obtain ⟨ja, rfl, nja, J1⟩ := jug_new d1 hb0 hb1
    refine g_name ?_
    dsimp only
    -- the table
    refine (?_ : tSeq _ _ _ _ _)
    refine ⟨.ref ja, rfl, ?_⟩
    refine x_drop (K := K) (m := 1) (many := 4) rfl z_int (by decide) (by decide) J1 (by decide) fun c2 H2 hc2 sx2 J2 => ?_
    refine ⟨2, (c2 : Int), rfl, rfl, ?_⟩
    obtain ⟨c, hc⟩ : ∃ c : Nat, c = 2 + c2 := ⟨_, rfl⟩
    refine ⟨ja, c, 1, ?_, by omega, by omega, J2, by decide, fun A D v2 H3 S sx3 J3 d2 => ?_⟩
    · show [V.ref ja, V.int (2 + (c2 : Int))] = [V.ref ja, V.int (c : Int)]
      rw [show (2 : Int) + (c2 : Int) = (c : Int) by omega]
    refine g_name ?_
    dsimp only
    have nja : H ja = none := nja
    have sH3 : Same H H3 := fun b o e => sx3.1 b o (ne_of_none e nja) (sx2.1 b o (ne_of_none e nja) (s1 b o e))
    have d2 := L2.Dp.mono hid_same d2
    have tb := S.tb
    have t := tb.tab
    have h5 := tb.n5
    have h1c := tb.n1
    -- steps
    refine r_call (K := K) (a_one (z_var (i := 2) rfl d2)) ⟨c, A, rfl, tb, rfl⟩ fun r hr2 v3 H4 s4 d3 => ?_
    obtain ⟨p, hp, rfl⟩ := hr2
    cases d3
    refine g_name ?_
    dsimp only
    obtain ⟨p1, p6, _⟩ := hp.bds t h5
    -- found
    refine r_call (K := K) (a_one (z_var (i := 2) rfl (L2.Dp.mono s4 d2))) ⟨c, A, D, rfl, S, rfl⟩ fun r hr2 v4 H5 s5 d4 => ?_
    obtain ⟨p', hp', rfl⟩ := hr2
    obtain rfl := hp'.uniq hp
    refine g_name ?_
    dsimp only
    have d4 := d4.dp
    -- circles
    refine s_set (K := K) (d := rgsD (rgs c A)) (z_call (a_one (z_var (i := 2) rfl (L2.Dp.mono (s4.trans s5) d2))) ⟨c, A, rfl, tb, rfl⟩) fun v5 H6 s6 d5 => ?_
    have s36 := (s4.trans s5).trans s6
    have d4 := L2.Dp.mono s6 d4
    -- the kinds of what was found
    refine s_pass ?_ fun H7 s7 => ?_
    · refine t_or (b := false) (c := false) (t_not (b := true) (t_val (K := K) (z_isi (z_var (i := 4) rfl d4)))) fun _ => t_or (b := false) (c := false) (t_not (b := true) (t_val (K := K) (z_isi (z_var (i := 3) rfl (.int _))))) fun _ => t_or (b := false) (c := false) (t_val (K := K) ?_) fun _ => t_val (K := K) ?_
      · have hl := z_lenT (K := K) (z_var (σ := [some x, some (.ref ja), some v2, some (.int (p' : Int)), some v4, some v5, none, none, none, none, none, none, none, none, none, none, none]) (i := 4) rfl d4)
        rw [tab_len] at hl
        have h := z_neI hl (z_var (σ := [some x, some (.ref ja), some v2, some (.int (p' : Int)), some v4, some v5, none, none, none, none, none, none, none, none, none, none, none]) (i := 3) rfl (.int _))
        rw [decide_eq_true rfl] at h
        exact h
      · have h := z_cmp (K := K) (p := fun i j => decide (i < j)) (z_var (σ := [some x, some (.ref ja), some v2, some (.int (p' : Int)), some v4, some v5, none, none, none, none, none, none, none, none, none, none, none]) (H := H6) (i := 3) rfl (.int _)) (z_int (i := 1))
        rw [decide_eq_false (show ¬ (p' : Int) < 1 by omega)] at h
        exact h
    have s37 := s36.trans s7
    have d2 := L2.Dp.mono s37 d2
    have d4 := L2.Dp.mono s7 d4
    have d5 := L2.Dp.mono s7 d5
    -- powers
    refine s_set (K := K) (d := .list (tab 25 fun k => tabD c (pw c A k))) (En.ez (n_lcA (src_r1 (n := 25) (ap_one p_int) (by decide)).g (by decide) fun k hk z H8 s8 dz => ?_)) fun v6 H8 s8 d6 => ?_
    · cases dz
      exact n_call (a_cons (z_var (i := 2) rfl (L2.Dp.mono s8 d2)) (a_one (z_var (i := 12) rfl (.int _)))) ⟨c, A, k, D, rfl, tb, S.pos, S.dn, S.big (by omega), rfl⟩
    have d2 := L2.Dp.mono s8 d2
    have d4 := L2.Dp.mono s8 d4
    have d5 := L2.Dp.mono s8 d5
    -- rows
    obtain ⟨ED, hE0, hE9, hEd⟩ := S.lmD (p := p') p6
    have tE := en_tab (t.pw p')
    obtain ⟨DD2, hDD⟩ : ∃ DD2 : Nat, DD2 = D ^ 24 * ED := ⟨_, rfl⟩
    have hDDp : 0 < DD2 := by rw [hDD]; exact Nat.mul_pos (Nat.pow_pos S.pos) hE0
    have hDDs : DD2 < 2 ^ 1500 := by
      rw [hDD]
      have h1 := pow6 (k := 24) (m := 72) S.le (by decide)
      have h2 : D ^ 24 < 2 ^ 73 := Nat.lt_of_le_of_lt h1 (two_lt (by decide))
      exact lt_pw (lt_mul h2 hE9) (by decide)
    have fbP : ∀ k, k < 25 → ∀ i j, i < c → j < c → Fb DD2 1 (pw c A k i j) := fun k hk i j hi hj => by
      refine fb_of ?_ ((t.pw k).nn i j hi hj) ((t.pw k).le1 hi hj)
      rw [hDD]
      exact Nat.dvd_trans (den_pw S.pos S.dn k i j hi hj) (Nat.dvd_trans (Nat.pow_dvd_pow D (by omega)) (Nat.dvd_mul_right _ _))
    have fbL : ∀ k, k ≤ 6 → ∀ i j, i < c → j < c → Fb DD2 1 (Lm c A (En0 c (pw c A p')) k i j) := fun k hk i j hi hj => by
      have tl := Lm_tab t tE k
      refine fb_of ?_ (tl.nn i j hi hj) (tl.le1 hi hj)
      rw [hDD]
      exact Nat.dvd_trans (hEd k hk i j hi hj) (Nat.dvd_mul_left _ _)
    obtain ⟨d, hd⟩ : ∃ d : Nat → Nat → Rat, d = fun k j => nrm c (fun i j => pw c A k i j - Lm c A (En0 c (pw c A p')) (k % p') i j) j := ⟨_, rfl⟩
    have hdg : ∀ k j, j < c → d k j = nrm c (gap c A (En0 c (pw c A p')) k) j := fun k j hj => by rw [hd]; exact nrm_congr (gap_lm t k) hj
    have hdb : ∀ k j, k < 25 → j < c → Bd 1600 (d k j) := fun k j hk hj => by
      rw [hd]
      have hm : k % p' ≤ 6 := by have := Nat.mod_lt k (show p' > 0 by omega); omega
      have f := Fb.sum (f := fun i => ab (pw c A k i j - Lm c A (En0 c (pw c A p')) (k % p') i j)) hDDp c fun i hi => fb_ab (Fb.sub hDDp (fbP k hk i j hi hj) (fbL _ hm i j hi hj))
      refine (f.mono (Nat.dvd_refl _) (show c * (1 + 1) ≤ 16 by omega)).bd hDDp (by decide) ?_
      have : 16 * DD2 < 2 ^ 4 * 2 ^ 1500 := by omega
      rw [← Nat.pow_add] at this
      exact lt_pw this (by decide)
    have hdd : ∀ k j, k + 1 < 25 → j < c → d (k + 1) j ≤ d k j := fun k j hk hj => by
      rw [hdg _ _ hj, hdg _ _ hj]; exact gap_le t k j
    refine s_set (K := K) (d := .list (tab 25 fun k => rowL c (d k))) (En.ez (n_lcA (src_r1 (n := 25) (ap_one p_int) (by decide)).g (by decide) fun k hk z H9 s9 dz => ?_)) fun v7 H9 s9 d7 => ?_
    · cases dz
      have hm : k % p' < p' := Nat.mod_lt _ (by omega)
      have zi : Ez K (tOp (rI (fun _ j => 0 < j) fun i j => .int (i % j)) (tCB (fun xs H Q => (∃ i, xs = [.int i] ∧ Q (.int i) H) ∨ ∃ k, xs = [.bl k] ∧ Q (.int (if k = true then 1 else 0)) H) (tCons (tVar 12) tNil)) (tVar 3)) [some x, some (.ref ja), some v2, some (.int (p' : Int)), some v4, some v5, some v6, none, none, none, none, none, some (.int (k : Int)), none, none, none, none] H9 (.int ((k % p' : Nat) : Int)) := by
        rw [Int.natCast_emod]
        exact z_mod (z_intI (z_var (i := 12) rfl (.int _))) (z_var (i := 3) rfl (.int _)) (by omega)
      refine n_call (a_cons (z_ixL (i := k) (z_var (i := 6) rfl (L2.Dp.mono s9 d6)) (z_var (i := 12) rfl (.int _)) (tab_at hk)) (a_one (z_ixT (i := k % p') (z_var (i := 4) rfl (L2.Dp.mono s9 d4)) zi (tab_at hm)))) ⟨c, pw c A k, _, DD2, rfl, h1c, h5, hDDp, hDDs, fun i j hi hj => ⟨fbP k hk i j hi hj, fbL _ (by omega) i j hi hj⟩, by rw [hd]⟩
    have d2 := L2.Dp.mono s9 d2
    have d4 := L2.Dp.mono s9 d4
    have d5 := L2.Dp.mono s9 d5
    -- nearer, rings
    refine s_pass ?_ fun H10 s10 => ?_
    · refine t_or (b := false) (c := false) (t_not (b := true) (t_val (K := K) (z_call (a_cons (z_var (i := 2) rfl d2) (a_cons (z_var (i := 4) rfl d4) (a_one (z_var (i := 7) rfl d7)))) ⟨c, A, D, p', d, rfl, S, hp, hdb, hdd, rfl⟩))) fun _ => t_not (b := true) (t_val (K := K) (z_call (a_cons (z_var (i := 2) rfl d2) (a_cons (z_var (i := 5) rfl d5) (a_one (z_var (i := 3) rfl (.int _))))) ⟨c, A, D, p', rfl, S, hp, rfl⟩))
    have d2 := L2.Dp.mono s10 d2
    have d5 := L2.Dp.mono s10 d5
    have d7 := L2.Dp.mono s10 d7
    have sHA : Same H H10 := ((sH3.trans s37).trans s8).trans (s9.trans s10)
    clear d4 d6 s4 s5 s6 s7 s8 s9 s10 s36 s37
    -- the water
    obtain ⟨c1, hc1⟩ := rd (ns ++ [0, 0]) 1 (by rw [List.length_append]; simp)
    rw [List.map_append] at hc1
    refine r_call (K := K) (a_cons (z_ixL (i := 1) (z_cat (zx rfl sHA) (z_lst (a_cons (z_int (i := 0)) (a_one (z_int (i := 0))))) (by rw [List.length_map]; simp; omega)) z_int hc1) (a_one (z_add (zlen rfl sHA) z_int))) ⟨c1, _, rfl, rfl⟩ fun r hr2 v8 H12 s12 d8 => ?_
    obtain ⟨wa0, wb0, hwb0, hwb1, rfl⟩ := hr2
    obtain ⟨wa, rfl, nwa, JW⟩ := jug_new d8 hwb0 hwb1
    refine g_name ?_
    dsimp only
    have shW : Same H10 (hid wa H12) := same_hid s12 nwa
    have d2w := L2.Dp.mono shW d2
    have d5w := L2.Dp.mono shW d5
    have d7w := L2.Dp.mono shW d7
    have sHW := sHA.trans shW
    have d2 := L2.Dp.mono s12 d2
    -- the cellar
    refine s_setnil fun ca nca => ?_
    obtain ⟨ow, how⟩ := JW.some
    have caW : ca ≠ wa := fun e => by rw [e, how] at nca; cases nca
    have fW : hid wa H12 wa = none := hid_self
    have hca0 : hid wa H12 ca = none := by rw [hid_ne caW]; exact nca
    have sw : Same (hid wa H12) (upd H12 ca (.lst [])) := hid_same.trans (same_new nca)
    have I0 : LcInv K (hid wa H12) ca [] (upd H12 ca (.lst [])) := ⟨sw, fun a e => hid_same.free (upd_none e).2, fun _ e => e, [], upd_same, .nil⟩
    have J0 : JG (upd H12 ca (.lst [])) wa 0 := JW.mono (same_new nca)
    have hlc : Ap K (tCons (tCB (rLenX K) (tCons (tVar 2) tNil)) tNil) [some x, some (.ref ja), some v2, some (.int (p' : Int)), some v4, some v5, some v6, some v7, some (.ref wa), some (.ref ca), none, none, none, none, none, none, none] (upd H12 ca (.lst [])) [.int (c : Int)] := by
      have h := p_lenT (K := K) (σ := [some x, some (.ref ja), some v2, some (.int (p' : Int)), some v4, some v5, some v6, some v7, some (.ref wa), some (.ref ca), none, none, none, none, none, none, none]) (p_var (i := 2) rfl (L2.Dp.mono (same_new (o := .lst []) nca) d2))
      rw [tab_len] at h
      exact ap_one h
    refine s_forHS (K := K) (Hb := hid wa H12) (n := c) (it := fun i => .int (i : Int)) (fun i σ' H' => ∃ (F : Nat → Nat → Nat) (y10 y11 : Option V), σ' = [some x, some (.ref ja), some v2, some (.int (p' : Int)), some v4, some v5, some v6, some v7, some (.ref wa), some (.ref ca), y10, y11, none, none, none, none, none] ∧ LcInv K (hid wa H12) ca (tab i fun i => fillD fun k => ((F i k : Nat) : Rat)) H' ∧ JG H' wa (2 * i) ∧ ∀ j, j < i → ∀ k, k < 2 → F j k ≤ 8)
      (srcH_r1 hlc (by omega)) ⟨fun _ _ => 0, none, none, rfl, I0, J0, fun j h => absurd h (Nat.not_lt_zero _)⟩ (fun i σ' H' p => ?_) (fun i σ' H' hi p10 x10 dx10 => ?_) (fun σ' H' p10 => ?_)
    · obtain ⟨_, _, _, _, I, _⟩ := p; exact I.same
    · obtain ⟨F, y10, y11, rfl, I, J, hF⟩ := p10
      cases dx10
      have flF : ∀ {n : Nat} {G : Nat → Nat → Nat}, flatDs (tab n fun i => fillD fun k => ((G i k : Nat) : Rat)) = true := flats_tab fun _ => flat_fill
      -- pairs
      refine (?_ : tSeq _ _ _ _ _)
      refine x_drop (K := K) (m := 8) (many := 5) rfl z_int (by decide) (by decide) J (by omega) fun r1 H13 hr1 sx13 J13 => ?_
      have I13 : LcInv K (hid wa H12) ca (tab i fun i => fillD fun k => ((F i k : Nat) : Rat)) H13 := by
        obtain ⟨a, b, z, e, _⟩ := id J
        exact LcF.other I flF fW caW e sx13
      refine ⟨by show 2 ≤ sizeLine; decide, fun q1 nq1 => ?_⟩
      have sq1 := same_new (o := .tup [.str (Str.ofString "r"), .int (r1 : Int)]) nq1
      have q1W : q1 ≠ wa := fun e => by obtain ⟨o, ho⟩ := J13.some; rw [e, ho] at nq1; cases nq1
      have I14 := LcF.same' I13 sq1
      have J14 := J13.mono sq1
      refine x_drop (K := K) (m := 8) (many := 9) rfl z_int (by decide) (by decide) J14 (by omega) fun r2 H15 hr2 sx15 J15 => ?_
      have I15 : LcInv K (hid wa H12) ca (tab i fun i => fillD fun k => ((F i k : Nat) : Rat)) H15 := by
        obtain ⟨a, b, z, e, _⟩ := id J14
        exact LcF.other I14 flF fW caW e sx15
      have hq1 : H15 q1 = some (.tup [.str (Str.ofString "r"), .int (r1 : Int)]) := sx15.1 _ _ q1W upd_same
      refine ⟨by show 2 ≤ sizeLine; decide, fun q2 nq2 => ?_⟩
      have sq2 := same_new (o := .tup [.str (Str.ofString "red"), .int (r2 : Int)]) nq2
      refine ⟨by show 2 ≤ sizeLine; decide, fun q3 nq3 => ?_⟩
      have sq3 := same_new (o := .lst [.ref q1, .ref q2]) nq3
      refine g_name ?_
      dsimp only
      have I17 := LcF.same' (LcF.same' I15 sq2) sq3
      have J17 := (J15.mono sq2).mono sq3
      obtain ⟨f, hf⟩ : ∃ f : Nat → Nat, f = fun k => if k = 0 then r1 else r2 := ⟨_, rfl⟩
      have d11 : Dp K (upd (upd H15 q2 (.tup [.str (Str.ofString "red"), .int (r2 : Int)])) q3 (.lst [.ref q1, .ref q2])) (.ref q3) (.list (tab 2 fun k => .tuple [.str (kn k), .int ((f k : Nat) : Int)])) := by
        rw [hf]
        refine .lst (SqL.of upd_same) (.cons (.tup (SqT.of (sq3 _ _ (sq2 _ _ hq1))) (.cons (.str _) (.cons (.int _) .nil))) (.cons (.tup (SqT.of (sq3 _ _ upd_same)) (.cons (.str _) (.cons (.int _) .nil))) .nil))
      generalize (upd (upd H15 q2 (.tup [.str (Str.ofString "red"), .int (r2 : Int)])) q3 (.lst [.ref q1, .ref q2])) = H17 at I17 J17 d11
      -- cellar.append(..)
      have hfill : fillD (fun k => ((f k : Nat) : Rat)) = .tuple (pick 2 (fun k => decide ((0 : Int) < ((f k : Nat) : Int))) fun k => entD (fun k => ((f k : Nat) : Rat)) k) := by
        unfold fillD ents pick
        congr 2
        refine List.filter_congr fun k _ => decide_eq_decide.mpr ?_
        constructor
        · intro h
          have := Rat.natCast_pos.mp h
          omega
        · intro h; exact Rat.natCast_pos.mpr (by omega)
      refine s_app (K := K) (m := 9) (Hb := hid wa H12) rfl hca0 I17 (by rw [tab_len]; omega) (d := fillD fun k => ((f k : Nat) : Rat)) ?_ fun H18 I18 sx18 => ?_
      · rw [hfill]
        refine n_tuple (n_lcP (n := 2) (it1 := fun k => .str (kn k)) (it2 := fun k => .int ((f k : Nat) : Int)) ?_ (by decide) (fun k hk y z H1 s1 dy dz => ?_) (fun k hk _ y z H1 s1 dy dz => ?_))
        · have h := src_list (K := K) (σ := [some x, some (.ref ja), some v2, some (.int (p' : Int)), some v4, some v5, some v6, some v7, some (.ref wa), some (.ref ca), some (.int (i : Int)), some (.ref q3), none, none, none, none, none]) (p_var (i := 11) rfl d11)
          rw [tab_len] at h
          exact (h.congr fun k hk => tab_getD hk).g
        · exact t_val (K := K) (z_cmp (p := fun i j => decide (j < i)) (z_var (i := 16) rfl dz) z_int)
        · unfold entD
          rw [fr_nat]
          exact n_tup (an_cons (Ez.en (z_var (i := 15) rfl dy)) (an_cons (n_tup (an_cons (Ez.en (z_var (i := 16) rfl dz)) (an_cons z_int.en an_nil))) an_nil))
      · have e : (tab i fun i => fillD fun k => ((F i k : Nat) : Rat)) ++ [fillD fun k => ((f k : Nat) : Rat)] = tab (i + 1) fun t => fillD fun k => (((if t = i then f k else F t k : Nat) : Nat) : Rat) := by
          rw [tab_succ]
          congr 1
          · refine tab_congr fun t ht => ?_
            exact fillD_congr fun k _ => by rw [if_neg (show ¬ t = i by omega)]
          · rw [fillD_congr (b := fun k => (((if i = i then f k else F i k : Nat) : Nat) : Rat)) fun k _ => by rw [if_pos rfl]]
        rw [e] at I18
        refine ⟨fun t k => if t = i then f k else F t k, _, _, rfl, I18, (J17.up ?_).le (by omega), fun t ht k hk => ?_⟩
        · obtain ⟨a, b, z, e, _⟩ := id J17
          rw [e]; exact sx18.1 _ _ (Ne.symm caW) e
        · show (if t = i then f k else F t k) ≤ 8
          split
          · rw [hf]
            show (if k = 0 then r1 else r2) ≤ 8
            split <;> omega
          · exact hF t (by omega) k hk
    · obtain ⟨F, y10, y11, rfl, I, J, hF⟩ := p10
      obtain ⟨CC, hCC⟩ : ∃ CC : Wine, CC = fun i k => ((F i k : Nat) : Rat) := ⟨_, rfl⟩
      have hCel : Cel c CC 1 := by
        refine ⟨by decide, fun i k _ _ => by rw [hCC]; exact Rat.natCast_nonneg, fun i k _ _ => by rw [hCC]; show ((F i k : Nat) : Rat).den ∣ 1; rw [Rat.den_natCast]; exact Nat.dvd_refl _, fun k hk => ?_⟩
        have h1 : sm (rg c) (fun i => CC i k) ≤ sm (rg c) fun _ => (8 : Rat) := sm_le fun i hi => by
          rw [hCC]
          have := hF i (List.mem_range.mp hi) k hk
          exact Rat.natCast_le_natCast.mpr this
        have h2 : ∀ m : Nat, m ≤ 5 → sm (rg m) (fun _ => (8 : Rat)) ≤ 40 := by
          intro m hm
          have : m = 0 ∨ m = 1 ∨ m = 2 ∨ m = 3 ∨ m = 4 ∨ m = 5 := by omega
          rcases this with rfl | rfl | rfl | rfl | rfl | rfl <;> decide +kernel
        exact Rat.le_trans h1 (h2 c h5)
      have dcell : Dp K H' (.ref ca) (.list (tab c fun i => fillD (CC i))) := by rw [hCC]; exact (LcF.dn hca0 I).dp
      have flC : flatDs (tab c fun i => fillD (CC i)) = true := flats_tab fun _ => flat_fill
      -- all that stood stands
      have sxW : Same (hid wa H12) H' := I.same
      have d2' := L2.Dp.mono sxW d2w
      have d5' := L2.Dp.mono sxW d5w
      have d7' := L2.Dp.mono sxW d7w
      have sHH := sHW.trans sxW
      clear d2 d5 d7 d2w d5w d7w I J JW how
      -- the last loop
      obtain ⟨M, hM, hM6, hMk⟩ : ∃ M : Nat, (if (if ((ns.length : Int) - 2) > 1 then ((ns.length : Int) - 2) else 1) < 6 then (if ((ns.length : Int) - 2) > 1 then ((ns.length : Int) - 2) else 1) else 6) = (M : Int) ∧ M ≤ 6 ∧ ∀ k, k < M → k < (ns.drop 2 ++ [(0 : Int)]).length := by
        rw [List.length_append, List.length_drop]
        by_cases h1 : ((ns.length : Int) - 2) > 1
        · rw [if_pos h1]
          by_cases h2 : ((ns.length : Int) - 2) < 6
          · rw [if_pos h2]; exact ⟨ns.length - 2, by omega, by omega, fun k hk => by simp; omega⟩
          · rw [if_neg h2]; exact ⟨6, rfl, by omega, fun k hk => by simp; omega⟩
        · rw [if_neg h1, if_pos (by decide)]; exact ⟨1, rfl, by omega, fun k hk => by simp; omega⟩
      have hg : ∀ R : It → Hp → Prop, (∀ Jt H2, Same H' H2 → Src1At K Jt H2 M (fun i => .int ((i : Nat) : Int)) → R Jt H2) → iRng1 (tCons (tCB (fun xs H Q => ∃ i j, xs = [.int i, .int j] ∧ Q (.int (if j < i then j else i)) H) (tCons (tC (.int 6)) (tCons (tCB (fun xs H Q => ∃ i j, xs = [.int i, .int j] ∧ Q (.int (if j > i then j else i)) H) (tCons (tC (.int 1)) (tCons (tOp (rI0 fun i j => .int (i - j)) (tCB (rLenX K) (tCons (tVar 0) tNil)) (tC (.int 2))) tNil))) tNil))) tNil) [some x, some (.ref ja), some v2, some (.int (p' : Int)), some v4, some v5, some v6, some v7, some (.ref wa), some (.ref ca), y10, y11, none, none, none, none, none] H' R := fun R qR => by
        have hz := z_min2 (K := K) (σ := [some x, some (.ref ja), some v2, some (.int (p' : Int)), some v4, some v5, some v6, some v7, some (.ref wa), some (.ref ca), y10, y11, none, none, none, none, none]) (H := H') (z_int (i := 6)) (z_max2 (z_int (i := 1)) (z_sub (zlen rfl sHH) (z_int (i := 2))))
        rw [hM] at hz
        refine (a_one hz) H' (Same.refl _) _ fun vs H2 s2 dvs2 => ?_
        obtain ⟨z, rfl, dz⟩ := one_of dvs2
        cases dz
        refine ⟨M, rfl, by omega, by omega, ?_⟩
        have e := itr_at (K := K) (Hb := H2) (lo := 0) (n := M)
        simp only [Int.zero_add] at e
        exact qR _ H2 s2 e
      refine s_forG (K := K) (fun H2 i σ' H3 => ∃ y12 y13 y14 : Option V, σ' = [some x, some (.ref ja), some v2, some (.int (p' : Int)), some v4, some v5, some v6, some v7, some (.ref wa), some (.ref ca), y10, y11, y12, y13, y14, none, none] ∧ Same H2 H3) hg (fun H2 s2 => ⟨none, none, none, rfl, Same.refl _⟩) (fun H2 i σ' H3 p => ?_) (fun H2 k σ' H3 s2 hk p12 x12 dx12 => ?_) (fun H2 σ' H3 s2 p12 => ?_)
      · obtain ⟨_, _, _, _, s'⟩ := p; exact s'
      · obtain ⟨y12, y13, y14, rfl, s3⟩ := p12
        cases dx12
        have s23 := s2.trans s3
        have sH3 := sHH.trans s23
        obtain ⟨ck, hck⟩ := rd (ns.drop 2 ++ [0]) k (hMk k hk)
        rw [List.map_append, List.map_drop] at hck
        refine r_call (K := K) (a_cons (z_ixL (i := k) (z_cat (z_slice2 (zx rfl sH3)) (z_lst (a_one (z_int (i := 0)))) (by rw [List.length_drop, List.length_map]; simp; omega)) (z_var (i := 12) rfl (.int _)) hck) (a_one (z_add (z_var (i := 12) rfl (.int _)) z_int))) ⟨ck, _, rfl, rfl⟩ fun r hr2 v13 H4 s4 d13 => ?_
        obtain ⟨oa0, ob0, hob0, hob1, rfl⟩ := hr2
        obtain ⟨oa, rfl, noa, JO⟩ := jug_new d13 hob0 hob1
        refine g_name ?_
        dsimp only
        -- the nearness
        refine (?_ : tSeq _ _ _ _ _)
        refine x_drop (K := K) (m := 13) (many := 3) rfl z_int (by decide) (by decide) JO (by decide) fun r1 H5 hr1 sx5 J5 => ?_
        refine ⟨1, (r1 : Int), rfl, rfl, ?_⟩
        refine ⟨10, 9, rfl, rfl, ⟨by decide, by decide⟩, ?_⟩
        refine ⟨by show 4 ≤ sizeLine; decide, fun q1 nq1 => ?_⟩
        have q1O : q1 ≠ oa := fun e => by obtain ⟨o, ho⟩ := J5.some; rw [e, ho] at nq1; cases nq1
        refine x_drop (K := K) (m := 13) (many := 4) rfl z_int (by decide) (by decide) (J5.mono (same_new nq1)) (by decide) fun r2 H6 hr2 sx6 J6 => ?_
        have hq1 := sx6.1 _ _ q1O (upd_same (H := H5) (a := q1) (o := .lst [.int 1, .int 4, .int 100, .int (10 ^ (9 : Int).toNat)]))
        obtain ⟨den, hden0, hden9, hdat⟩ : ∃ den : Nat, 0 < den ∧ den < 2 ^ 30 ∧ ([.int 1, .int 4, .int 100, .int (10 ^ (9 : Int).toNat)] : List V)[r2]? = some (.int (den : Int)) := by
          have : r2 = 0 ∨ r2 = 1 ∨ r2 = 2 ∨ r2 = 3 := by omega
          rcases this with rfl | rfl | rfl | rfl
          · exact ⟨1, by decide, by decide, rfl⟩
          · exact ⟨4, by decide, by decide, rfl⟩
          · exact ⟨100, by decide, by decide, rfl⟩
          · exact ⟨10 ^ 9, by decide, by decide, rfl⟩
        refine .inl ⟨q1, _, (r2 : Int), .int (den : Int), rfl, rfl, SqL.of hq1, atI_of hdat, ?_⟩
        obtain ⟨qq, hqq⟩ : ∃ qq : Rat, qq = ((1 + (r1 : Int) : Int) : Rat) / ((den : Int) : Rat) := ⟨_, rfl⟩
        have hdq : (0 : Rat) < ((den : Int) : Rat) := Rat.intCast_pos.mpr (by omega)
        have hqd : qq * ((den : Int) : Rat) = ((1 + (r1 : Int) : Int) : Rat) := by
          rw [hqq]
          have : ((den : Int) : Rat) ≠ 0 := by grind
          grind
        refine ⟨[.int (1 + (r1 : Int)), .int (den : Int)], frD qq, .cons (.int _) (.cons (.int _) .nil), ⟨_, _, rfl, by omega, by rw [Int.natAbs_natCast]; exact lt_pw hden9 (by decide), by rw [hqq]⟩, fun v14 H7 s7 d14 => ?_⟩
        refine g_name ?_
        dsimp only
        have hqpos : 0 < qq := by
          have h1 : (0 : Rat) < ((1 + (r1 : Int) : Int) : Rat) := Rat.intCast_pos.mpr (by omega)
          rw [← hqd] at h1
          by_cases hc : 0 < qq
          · exact hc
          · have := (scale_iff (x := qq) (q := 0) hdq).mpr (Rat.not_lt.mp hc)
            rw [Rat.zero_mul] at this
            exact absurd h1 (Rat.not_lt.mpr this)
        have hqle : qq ≤ 3 := by
          refine (scale_iff hdq).mp ?_
          rw [hqd]
          have h1 : ((1 + (r1 : Int) : Int) : Rat) ≤ ((3 * (den : Int) : Int) : Rat) := Rat.intCast_le_intCast.mpr (by omega)
          rw [Rat.intCast_mul] at h1
          exact h1
        have hqb : Bd 40 qq := by
          have fb : Fb den 3 qq := ⟨den_dvd hden0 hqd, num_le.mpr (by rw [ab_of_nonneg (Rat.le_of_lt hqpos)]; exact hqle)⟩
          exact fb.bd hden0 (by decide) (by
            have : 3 * den < 2 ^ 2 * 2 ^ 30 := by omega
            exact lt_pw (x := 32) this (by decide))
        -- what stood at H3 stands
        have sx47 : SameX oa H4 H7 := (sx5.trans (.of (same_new nq1))).trans (sx6.trans (.of s7))
        have s37 : Same H3 H7 := fun b o e => sx47.1 b o (ne_of_none e noa) (s4 _ _ e)
        have J7 := J6.mono s7
        have s37h : Same H3 (hid oa H7) := same_hid s37 noa
        have s27 := s23.trans s37
        -- near
        refine (?_ : tIfS _ _ _ _ _ _)
        refine (z_call (K := K) (tr := tCons (tVar 2) (tCons (tVar 7) (tCons (tVar 14) tNil))) (E := E0) (P := PLn) (a_cons (z_var (σ := [some x, some (.ref ja), some v2, some (.int (p' : Int)), some v4, some v5, some v6, some v7, some (.ref wa), some (.ref ca), y10, y11, some (.int (k : Int)), some (.ref oa), some v14, none, none]) (i := 2) rfl (L2.Dp.mono s27 d2')) (a_cons (z_var (i := 7) rfl (L2.Dp.mono s27 d7')) (a_one (z_var (i := 14) rfl d14.dp)))) ⟨c, A, D, p', d, qq, rfl, S, hp, hqpos, hqb, fun k j hk hj => ⟨hdb k j hk hj, hdg k j hj⟩, rfl⟩) H7 (Same.refl _) _ fun vb H8 s8 dvb => ?_
        cases dvb
        refine ⟨true, rfl, ?_⟩
        -- rounds
        refine ⟨v2, rfl, ?_⟩
        refine (n_tupleF (K := K) (z_var (σ := [some x, some (.ref ja), some v2, some (.int (p' : Int)), some v4, some v5, some v6, some v7, some (.ref wa), some (.ref ca), y10, y11, some (.int (k : Int)), some (.ref oa), some v14, none, none]) (i := 9) rfl (L2.Dp.mono (s27.trans s8) dcell)) flC) H8 (Same.refl _) _ fun vt H9 s9 dvt => ?_
        have J9 := J7.mono (s8.trans s9)
        have s39 := (s37.trans s8).trans s9
        have s39h : Same H3 (hid oa H9) := same_hid s39 noa
        obtain ⟨oja, ojb, ojz, hoj, _⟩ := id J9
        refine ⟨v5, rfl, .ref oa, rfl, c, A, D, CC, oa, _, v2, vt, v5, rfl, L2.Dp.mono (s23.trans s39h) d2', L2.Dp.flatHid flat_cell hoj dvt.dp, L2.Dp.mono (s23.trans s39h) d5', S, hCel, J9, by decide, fun H10' sx10 => ?_⟩
        refine ⟨true, rfl, ?_⟩
        refine ⟨_, _, _, rfl, ?_⟩
        exact fun b o e => by
          have e3 := s3 _ _ e
          exact sx10.1 b o (ne_of_none e3 noa) (s39 _ _ e3)
      · obtain ⟨y12, y13, y14, rfl, s3⟩ := p12
        exact s_ret (K := K) (d := .bool true) z_bl.en fun v H4 s4 d4 => by
          cases d4
          exact q _
end
end Ck
end

section
set_option Elab.async false
set_option linter.all false
set_option maxRecDepth 100000
set_option maxHeartbeats 0
/-! The head: what the top leaves, read by a hook of our own. -/
namespace Ck
open PySem PySem.Spec PyProof.Rows L2
def dfn (p : String × Nat) : He.DefD := ⟨(Str.ofString p.1, none), Str.ofString p.1, Str.ofString p.1, defArgs (topS p.2), defBody (topS p.2), defScope (topS p.2), [], []⟩
def hFn : List He.DefD := fnNames.map dfn
def hFa : List He.Fa := (freeN.map fun x => He.Fa.free (Str.ofString x)) ++ ((fnNames.map fun p => He.Fa.glo (Str.ofString p.1)) ++ [He.Fa.glo "TooMany"])
abbrev R : PySem.W.OpenRow := PySem.W.OpenLaw.row PySem.Challenge.rw_caskyears_k59_whole_rounds_come_nearer
/-! ### TooMany: Bools over a part of the heap -/
def hC (K : Fg) : Addr := He.ga K "TooMany"
def hD (K : Fg) : Addr := He.ga K "CaskError"
def hI (K : Fg) : Addr := He.ma K (hC K) "__init__"
def tcB (K : Fg) : Bool := match K.lookup (hC K) with
  | some ⟨.type "type", _, .cls cd, sl⟩ => (match cd.mro, sl.toList with
    | .ref C' :: bm, [_, _, _, _, some (.builtin n), _] => C' == hC K && (n == "ValueError.__new__" && (!cd.hasDel && (cd.hasDict && HandSPX.refsVE bm)))
    | _, _ => false)
  | _ => false
def codeB (K : Fg) (file : Str) (cd : Value) : Bool := match cd with
  | .ref c => (match K.lookup c with
    | some ⟨_, _, .fields vs, _⟩ => (match (vs[2]? : Option Value) with
      | some (Value.str f _) => file == f
      | _ => false)
    | _ => false)
  | _ => false
def cellB (K : Fg) (D : Addr) (cl : List (Str × Addr)) : Bool := match cl with
  | [(_, cc)] => (match K.lookup cc with
    | some ⟨_, _, .cell (some (.ref D')), _⟩ => D' == D
    | _ => false)
  | _ => false
def initB (K : Fg) (file : Str) : Bool := match K.lookup (hI K) with
  | some ⟨_, _, .func fd, _⟩ => PySem.W.codeIn K fd.code "CaskError.__init__" && (codeB K file fd.code && cellB K (hD K) fd.closure)
  | _ => false
abbrev InV : Type := Option (Str × Str × Arguments × FuncBody × Scope × Addr × List Str × Value × Value × Addr)
def initV (K : Fg) : InV := match K.lookup (hI K) with
  | some ⟨_, _, .func fd, _⟩ => some (fd.name, fd.qualname, fd.params, fd.body, fd.scope, fd.globals, fd.closure.map (·.1), fd.defaults, fd.kwdefaults, fd.builtins)
  | _ => none
def initW : InV := some ("__init__", "CaskError.__init__", PySem.TooX.iA, .stmts PySem.TooX.iB, PySem.TooX.iS, mainGlobals, ["__class__"], .none, .none, builtinsNs)
def exB (K : Fg) : Bool :=
  (tcB K && ((PySem.W.clsIn K (hD K)).isSome && (decide (PySem.W.mroIn K (hC K) (.ref (hD K)) = some true) && decide (PySem.W.subIn K (.ref (hC K)) (.type "ValueError") = some true)))) &&
  ((He.eqO (PySem.W.ks_superIn K (hC K) (hD K) "__init__") (some (some (.builtin "ValueError.__init__"))) && (He.eqO (PySem.W.nsIn K cStatics "thirdparty.any") (some none) && (He.eqO (PySem.W.findIn K (.ref (hC K)) "__setattr__") (some (some (.builtin "object.__setattr__"))) && He.eqO (PySem.W.findIn K (.ref (hC K)) "__getattribute__") (some (some (.builtin "BaseException.__getattribute__")))))) &&
  ((He.eqO (PySem.W.findIn K (.ref (hC K)) "__getattr__") (some none) && (He.eqO (PySem.W.findIn K (.ref (hC K)) "value") (some none) && (He.eqO (PySem.W.findIn K (.ref (hC K)) "__init__") (some (some (.ref (hI K)))) && decide (PySem.W.typeIn K (.ref (hI K)) = some (.type "function"))))) &&
  ((PySem.W.keepIn K (.ref (hC K)) && (decide (PySem.W.subIn K (.ref (hC K)) (.type "BaseException") = some true) && (decide (PySem.W.typeIn K (.ref (hC K)) = some (.type "type")) && PySem.W.hasDictIn K (hC K)))) &&
  ((decide (PySem.W.exmOne K (.ref (hC K)) (.ref (hC K)) = some true) && initB K R.prog.main.file) && (He.eqO (PySem.W.nsIn K mainGlobals "gcd") (some (some (.builtin "math.gcd"))) && He.eqO (PySem.W.nsIn K mainGlobals "lcm") (some (some (.builtin "math.lcm"))))))))
/-! ### the hook -/
abbrev AlB : Type := He.AlD × (Bool × InV)
def obsB (K : Fg) : AlB := (He.obsD hFa hFn K, exB K, initV K)
def valB : AlB := (He.valD hFn, true, initW)
def obG (g : Addr → Option Obj) : AlB := obsB (He.frG g (cStatics :: He.asD g 4))
def SaysB (K : Fg) : Prop := obsB K = valB
def hk : PySem.W.Hook where
  α := AlB
  obs := fun s => obG s.heap.get?
  val := fun _ => valB
  says := fun _ h => ∃ K : Fg, K.In h ∧ SaysB K
  of := fun _ _ e => ⟨_, He.frG_in, e⟩
  keeps := fun _ _ _ ⟨K, hK, c⟩ k => ⟨K, PySem.W.Frag.In.keeps hK k, c⟩
def ob (s : PySem.W.SharedT) : AlB := obG (HandSHeadRun.getT s)
theorem ob_eq (s : PySem.W.SharedT) : ob s = hk.obs s.abs := by
  have e : HandSHeadRun.getT s = s.abs.heap.get? := funext (HandSHeadRun.getT_eq s)
  show obG (HandSHeadRun.getT s) = obG s.abs.heap.get?
  rw [e]
def hLoose : List Str := (["CaskError", "InvalidFraction", "InvalidFill", "InvalidCellar", "InvalidTable", "InvalidNumber", "Unlike", "TooMany", "anew", "_law_mul"].map Str.ofString) ++ (fnNames.map fun p => Str.ofString p.1).filter (fun x => x ≠ Str.ofString "law")
theorem run (w : World) : HandSHeadRun.RunEqI R (PySem.W.view R.prog [0, 81]) hk ob 20000 hLoose w := by
  unfold HandSHeadRun.RunEqI
  kernel_rfl
end Ck
end

section
set_option Elab.async false
set_option linter.all false
set_option maxRecDepth 100000
set_option maxHeartbeats 0
/-! The head's facts to the walk's texts. -/
namespace Ck
open PySem PySem.Spec PyProof.Rows L2
theorem SaysB.d {K : Fg} (c : SaysB K) : He.SaysD hFa hFn K := congrArg (fun z : AlB => z.1) c
theorem SaysB.ex {K : Fg} (c : SaysB K) : exB K = true := congrArg (fun z : AlB => z.2.1) c
theorem SaysB.ini {K : Fg} (c : SaysB K) : initV K = initW := congrArg (fun z : AlB => z.2.2) c
theorem SaysB.fact {K : Fg} (c : SaysB K) {f : He.Fa} (h : f ∈ hFa) : f.ok K = true := by
  obtain ⟨i, hi⟩ := List.mem_iff_getElem?.mp h
  exact c.d.fact i (f := f) hi
theorem tcB_ok {K : Fg} (h : tcB K = true) : ∃ nm q N bs bm sn sub ab col dd k0 k1 k2 k3 k5, K.lookup (hC K) = some (excClassObj nm q (hC K) N bs bm true sn sub ab col dd k0 k1 k2 k3 k5 "ValueError.__new__") ∧ HandSPX.refsVE bm = true := by
  unfold tcB at h
  split at h
  · rename_i dd cd sl ho
    split at h
    · rename_i C' bm k0 k1 k2 k3 n k5 hm hs
      obtain ⟨h1, h⟩ := He.ba h
      obtain ⟨h2, h⟩ := He.ba h
      obtain ⟨h3, h⟩ := He.ba h
      obtain ⟨h4, h5⟩ := He.ba h
      have e1 : C' = hC K := eq_of_beq h1
      have e2 : n = "ValueError.__new__" := eq_of_beq h2
      obtain ⟨nm, bs, mro, ns, qn, hd, sn, sub, ab, col, del⟩ := cd
      dsimp only at hm h3 h4
      have e3 : del = false := by
        cases del with
        | false => rfl
        | true => cases h3
      have e4 : hd = true := h4
      have hsl : sl = #[k0, k1, k2, k3, some (.builtin n), k5] := by
        obtain ⟨l⟩ := sl
        simp only at hs
        rw [hs]
      rw [hm, e1, hsl, e2, e3, e4] at ho
      exact ⟨nm, qn, ns, bs, bm, sn, sub, ab, col, dd, k0, k1, k2, k3, k5, ho, h5⟩
    · cases h
  · cases h
theorem init_ok {K : Fg} {file : Str} (e : initV K = initW) (h : initB K file = true) : ∃ (oc cl ccl : Value) (od cld cdd : Option Addr) (doc pm ct : Value) (an : Option Addr) (cda cc : Addr) (osl csl ccs : Array (Option Value)) (vs : Array Value) (f : Str) (tf : Tok),
    K.lookup (hI K) = some ⟨oc, od, .func (PySem.W.ksFn "__init__" "CaskError.__init__" PySem.TooX.iA PySem.TooX.iB PySem.TooX.iS .none .none doc pm an (.ref cda) ct cc), osl⟩ ∧ PySem.W.codeIn K (.ref cda) "CaskError.__init__" = true ∧
    K.lookup cda = some ⟨ccl, cdd, .fields vs, ccs⟩ ∧ vs[2]? = some (.str f tf) ∧ (file == f) = true ∧ K.lookup cc = some ⟨cl, cld, .cell (some (.ref (hD K))), csl⟩ := by
  unfold initB at h
  unfold initV at e
  cases q : K.lookup (hI K) with
  | none => rw [q] at h; cases h
  | some o =>
    obtain ⟨oc, od, dt, osl⟩ := o
    rw [q] at h e
    cases dt with
    | func fd =>
      obtain ⟨n1, n2, n3, n4, n5, n6, n7, n8, n9, n10, n11, n12, n13, n14, n15⟩ := fd
      have e2 : (some (n1, n2, n3, n4, n5, n6, n7.map (·.1), n8, n9, n15) : InV) = initW := e
      unfold initW at e2
      have h0 : (PySem.W.codeIn K n13 "CaskError.__init__" && (codeB K file n13 && cellB K (hD K) n7)) = true := h
      obtain ⟨h1, h00⟩ := He.ba h0
      obtain ⟨h2, h3⟩ := He.ba h00
      clear h h0 h00
      have e3 := Option.some.inj e2
      have i1 : n1 = "__init__" := congrArg (fun z => z.1) e3
      have i2 : n2 = "CaskError.__init__" := congrArg (fun z => z.2.1) e3
      have i3 : n3 = PySem.TooX.iA := congrArg (fun z => z.2.2.1) e3
      have i4 : n4 = .stmts PySem.TooX.iB := congrArg (fun z => z.2.2.2.1) e3
      have i5 : n5 = PySem.TooX.iS := congrArg (fun z => z.2.2.2.2.1) e3
      have i6 : n6 = mainGlobals := congrArg (fun z => z.2.2.2.2.2.1) e3
      have i7 : n7.map (·.1) = (["__class__"] : List Str) := congrArg (fun z => z.2.2.2.2.2.2.1) e3
      have i8 : n8 = .none := congrArg (fun z => z.2.2.2.2.2.2.2.1) e3
      have i9 : n9 = .none := congrArg (fun z => z.2.2.2.2.2.2.2.2.1) e3
      have i15 : n15 = builtinsNs := congrArg (fun z => z.2.2.2.2.2.2.2.2.2) e3
      clear e e2 e3
      subst i1 i2 i3 i4 i5 i6 i8 i9 i15
      unfold codeB at h2
      split at h2
      · rename_i c
        split at h2
        · rename_i ccl cdd vs ccs hc
          split at h2
          · rename_i f tf hv
            unfold cellB at h3
            split at h3
            · rename_i y cc
              have i7' : y = "__class__" := by
                have z : [y] = (["__class__"] : List Str) := i7
                exact (List.cons.inj z).1
              subst i7'
              split at h3
              · rename_i cl cld D' csl hcc
                have eD : D' = hD K := eq_of_beq h3
                subst eD
                exact ⟨oc, cl, ccl, od, cld, cdd, n10, n11, n14, n12, c, cc, osl, csl, ccs, vs, f, tf, rfl, h1, hc, hv, h2, hcc⟩
              · cases h3
            · cases h3
          · cases h2
        · cases h2
      · cases h2
    | _ => cases h
theorem too_ok {K : Fg} {h : Heap} {mg : Str → Option Value} (X : K.In h) (G : h.Ns mainGlobals mg) (c : SaysB K) : PySem.TooX.TooTxt PySem.Challenge.pw_caskyears_k59_whole_rounds_come_nearer K mg (hC K) (hD K) (hI K) ∧ mg "gcd" = some (.builtin "math.gcd") ∧ mg "lcm" = some (.builtin "math.lcm") := by
  have g := He.glo_ok X G (c.fact (f := .glo "TooMany") (by unfold hFa; exact List.mem_append_right _ (List.mem_append_right _ (List.mem_singleton.mpr rfl))))
  have sp := He.free_ok X G (c.fact (f := .free "super") (by unfold hFa; exact List.mem_append_left _ (List.mem_map.mpr ⟨"super", by decide, rfl⟩)))
  have e := c.ex
  unfold exB at e
  obtain ⟨a1, e⟩ := He.ba e
  obtain ⟨a2, e⟩ := He.ba e
  obtain ⟨a3, e⟩ := He.ba e
  obtain ⟨a4, a5⟩ := He.ba e
  obtain ⟨b1, a1⟩ := He.ba a1
  obtain ⟨b2, a1⟩ := He.ba a1
  obtain ⟨b3, b4⟩ := He.ba a1
  obtain ⟨b5, a2⟩ := He.ba a2
  obtain ⟨b6, a2⟩ := He.ba a2
  obtain ⟨b7, b8⟩ := He.ba a2
  obtain ⟨b9, a3⟩ := He.ba a3
  obtain ⟨b10, a3⟩ := He.ba a3
  obtain ⟨b11, b12⟩ := He.ba a3
  obtain ⟨b13, a4⟩ := He.ba a4
  obtain ⟨b14, a4⟩ := He.ba a4
  obtain ⟨b15, b16⟩ := He.ba a4
  obtain ⟨a5, a6⟩ := He.ba a5
  obtain ⟨b17, b18⟩ := He.ba a5
  obtain ⟨b19, b20⟩ := He.ba a6
  refine ⟨{ gC := g, noS := sp, cls := tcB_ok b1, clsD := Option.isSome_iff_exists.mp b2, subD := of_decide_eq_true b3, subV := of_decide_eq_true b4, sup := He.eqO_ok b5, opq := He.eqO_ok b6, sa := He.eqO_ok b7, ga := He.eqO_ok b8, gg := He.eqO_ok b9, noN := He.eqO_ok b10, iC := He.eqO_ok b11, tC := of_decide_eq_true b12, kC := b13, exC := of_decide_eq_true b14, tyC := of_decide_eq_true b15, hdC := b16, te := of_decide_eq_true b17, top := by kernel_rfl, fn := init_ok c.ini b18 },
    PySem.W.mg_of X G (He.eqO_ok b19), PySem.W.mg_of X G (He.eqO_ok b20)⟩
theorem fun_of {K : Fg} {x : Str} {st : Stmt} {f : Addr} {fd : FuncData} (F : FunD K x x (defArgs st) (defBody st) (defScope st) [] [] f fd) : Fun K x x st f fd := by
  obtain ⟨⟨oc, od, dV, kV, doc, pm, an, cdv, ct, osl, e1, e2, e3, e4, e5⟩, kp⟩ := F
  have ed : dV = .none := by
    rcases e4 with ⟨_, e⟩ | ⟨e, _⟩
    · exact e
    · exact absurd rfl e
  subst ed
  exact ⟨⟨oc, od, kV, doc, pm, an, cdv, ct, osl, e1, e2, e3⟩, kp⟩
theorem txt_of {K : Fg} {h : Heap} {mg : Str → Option Value} (X : K.In h) (G : h.Ns mainGlobals mg) (c : SaysB K) : ∃ T : Txt K mg, T.fa 61 = He.ga K "law" := by
  have D : ∀ (i : Nat) (p : String × Nat), fnNames[i]? = some p → ∃ fd, Fun K (Str.ofString p.1) (Str.ofString p.1) (topS p.2) (He.ga K (Str.ofString p.1)) fd := fun i p hi => by
    obtain ⟨fd, F⟩ := c.d.def_ i (d := dfn p) (by unfold hFn; rw [List.getElem?_map, hi]; rfl)
    exact ⟨fd, fun_of F⟩
  obtain ⟨fd0, _⟩ := D 0 _ rfl
  have D2 : ∀ i : Nat, ∃ fd, ∀ p : String × Nat, fnNames[i]? = some p → Fun K (Str.ofString p.1) (Str.ofString p.1) (topS p.2) (He.ga K (Str.ofString p.1)) fd := fun i => by
    cases e : fnNames[i]? with
    | none => exact ⟨fd0, fun p h => by cases h⟩
    | some p =>
      obtain ⟨fd, F⟩ := D i p e
      exact ⟨fd, fun p' h => by
        have z : p = p' := Option.some.inj h
        rw [← z]; exact F⟩
  obtain ⟨g, hg⟩ := Classical.skolem.mp D2
  have M := too_ok X G c
  refine ⟨{ fa := fun i => He.ga K (Str.ofString (fnNames.getD i ("", 0)).1), fd := g, F := fun i p hi => ?_, g := fun i p hi => ?_, nb := fun x hx => ?_, gcd := M.2.1, lcm := M.2.2 }, rfl⟩
  · have z : fnNames.getD i ("", 0) = p := by rw [List.getD_eq_getElem?_getD, hi]; rfl
    rw [z]
    exact hg i p hi
  · have z : fnNames.getD i ("", 0) = p := by rw [List.getD_eq_getElem?_getD, hi]; rfl
    rw [z]
    exact He.glo_ok X G (c.fact (f := .glo (Str.ofString p.1)) (by
      unfold hFa
      exact List.mem_append_right _ (List.mem_append_left _ (List.mem_map.mpr ⟨p, List.mem_of_getElem? hi, rfl⟩))))
  · exact He.free_ok X G (c.fact (f := .free (Str.ofString x)) (by
      unfold hFa
      exact List.mem_append_left _ (List.mem_map.mpr ⟨x, hx, rfl⟩)))
theorem facts {w : World} {K : Fg} {h : Heap} {mg : Str → Option Value} {f : Addr} (X : K.In h) (G : h.Ns mainGlobals mg) (hfa : mg ("law" : Str) = some (.ref f)) (c : SaysB K) :
    ∃ fd : FuncData, (∀ (s : Shared) (v : Value), BindsTo s fd ⟨[v], []⟩ [("_law_script", v)]) ∧ ∀ base : Heap, K.In base → base.Ns mainGlobals mg → FnOk PySem.Challenge.pw_caskyears_k59_whole_rounds_come_nearer w K mg base CX0 12 f fd ["_law_script"] (spLaw K) := by
  obtain ⟨T, eT⟩ := txt_of X G c
  have TT := (too_ok X G c).1
  have e := hfa.symm.trans (T.g 61 _ rfl)
  cases e
  have F := T.F 61 _ rfl
  have b : ∀ (s : Shared) (v : Value), BindsTo s (T.fd 61) ⟨[v], []⟩ [("_law_script", v)] := fun s v => by
    obtain ⟨⟨_, _, _, _, _, _, _, _, _, e1, _⟩, _⟩ := F
    rw [e1]
    exact .of_eq rfl
  exact ⟨T.fd 61, b, fun base _ _ => ok_law T TT⟩
end Ck
open PySem PySem.W PySem.Calls PyProof.Rows
theorem PySem.Challenge.cw_caskyears_k59_whole_rounds_come_nearer_holds : PySem.Challenge.rw_caskyears_k59_whole_rounds_come_nearer.Holds := by
  w_on; o_law
  refine HandSHeadRun.head_imp (r := OpenLaw.row PySem.Challenge.rw_caskyears_k59_whole_rounds_come_nearer) (q := view (OpenLaw.row PySem.Challenge.rw_caskyears_k59_whole_rounds_come_nearer).prog [0, 81]) (H := Ck.hk) (ob := Ck.ob) (M := 20000) (loose := Ck.hLoose) (d := HandSHeadRun.topDef (OpenLaw.row PySem.Challenge.rw_caskyears_k59_whole_rounds_come_nearer).prog 81) (kwd := []) Ck.ob_eq Ck.run
    (by kernel_rfl) (by kernel_rfl) (by kernel_rfl) (by rfl) (by first | assumption | decide +kernel) (by decide +kernel) ⟨rfl, rfl, rfl, rfl, rfl, by decide +kernel⟩ ?hw ?hc
  case hw => w_witness2
  case hc =>
    refine L2.walk_ofE (l := PySem.Challenge.rw_caskyears_k59_whole_rounds_come_nearer) (n := 63) (k := 12) (x := "_law_script") (CX := L2.CX0) rfl (by decide) (by kernel_rfl) ⟨rfl, by decide, by decide⟩ ?F (fun _ _ _ _ z => z)
    intro w mg fa h Y G hmg0
    obtain ⟨K, KX, c⟩ := Y
    have hmg : mg ("law" : PySem.Str) = some (.ref fa) := by
      have e : (HandSHeadRun.topDef (OpenLaw.row PySem.Challenge.rw_caskyears_k59_whole_rounds_come_nearer).prog 81).name = ("law" : PySem.Str) := by kernel_rfl
      rw [← e]
      exact hmg0
    obtain ⟨fd, hb, hF⟩ := Ck.facts (w := w) KX G hmg c
    exact ⟨K, fd, Ck.spLaw K, KX, hb, fun H a ns hl _ hS => ⟨.ref a, ns, rfl, .lst hS L2.DpAll.ints, hl, fun _ => rfl⟩, hF⟩
end
