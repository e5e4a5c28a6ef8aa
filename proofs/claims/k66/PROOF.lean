import PyProof.Rows.All
import Wide.All
import OpenK.AllK
import Wide.FinOn
import KE.KStateDown
import HandS.Base
import HandS.Call
import HandS.Ends
import HandS.More
import HandS.Words
import HandS.WordsExc
import HandS.Defaults
import HandS.Head0
import HandS.Head1
import HandS.Head2
import HandS.Head3
import HandS.HeadEnd
import HandS.HeadHook1
import HandS.HeadHook2
import KE.GoesEnum
import KE.DataMinMax
import KE.KIndexOf
import KE.DatumOrd
import PyProof.ReprRoads
import PyProof.ReprBulk
import HandS.ForMost
import HandS.Walk
import HandS.Wide
import HandS.Gcd
import HandS.IsInst
import HandS.TupAny
import HandS.TupMul
import HandS.Zip
import HandS.Conv
import HandS.Style
import PySem.Challenge.RW_deedhouses_k66_whole_finer_sights_and_al
set_option Elab.async false
set_option linter.all false
set_option maxRecDepth 100000
set_option maxHeartbeats 0
/-! MathA: sums, greatest, the best by sight over functions (own work) -/
namespace K66
/-- sum of the first n -/
def sm : Nat → (Nat → Rat) → Rat
  | 0, _ => 0
  | n + 1, f => sm n f + f n
theorem sm_congr {n : Nat} {f g : Nat → Rat} (h : ∀ i, i < n → f i = g i) : sm n f = sm n g := by
  induction n with
  | zero => rfl
  | succ n ih =>
    show sm n f + f n = sm n g + g n
    rw [ih fun i hi => h i (by omega), h n (by omega)]
theorem sm_zero (n : Nat) : sm n (fun _ => 0) = 0 := by
  induction n with
  | zero => rfl
  | succ n ih => show sm n _ + 0 = 0; rw [ih]; grind
theorem sm_add (n : Nat) (f g : Nat → Rat) : sm n (fun i => f i + g i) = sm n f + sm n g := by
  induction n with
  | zero => show (0 : Rat) = 0 + 0; grind
  | succ n ih => show sm n _ + (f n + g n) = (sm n f + f n) + (sm n g + g n); rw [ih]; grind
theorem sm_mul (n : Nat) (c : Rat) (f : Nat → Rat) : sm n (fun i => c * f i) = c * sm n f := by
  induction n with
  | zero => show (0 : Rat) = c * 0; grind
  | succ n ih => show sm n _ + c * f n = c * (sm n f + f n); rw [ih]; grind
theorem sm_le {n : Nat} {f g : Nat → Rat} (h : ∀ i, i < n → f i ≤ g i) : sm n f ≤ sm n g := by
  induction n with
  | zero => show (0 : Rat) ≤ 0; grind
  | succ n ih =>
    have h1 := ih fun i hi => h i (by omega)
    have h2 := h n (by omega)
    show sm n f + f n ≤ sm n g + g n
    grind
theorem sm_swap (n m : Nat) (f : Nat → Nat → Rat) : sm n (fun i => sm m fun j => f i j) = sm m (fun j => sm n fun i => f i j) := by
  induction n with
  | zero => show (0 : Rat) = sm m (fun _ => 0); rw [sm_zero]
  | succ n ih => show sm n _ + sm m (fun j => f n j) = sm m (fun j => sm n (fun i => f i j) + f n j); rw [ih, sm_add]
theorem sm_nn {n : Nat} {f : Nat → Rat} (h : ∀ i, i < n → 0 ≤ f i) : 0 ≤ sm n f := by
  have := sm_le (n := n) (f := fun _ => 0) (g := f) h
  rw [sm_zero] at this
  exact this
/-- one place alone -/
theorem sm_one {n k : Nat} (a : Rat) (h : k < n) : sm n (fun i => if k = i then a else 0) = a := by
  induction n with
  | zero => omega
  | succ n ih =>
    show sm n _ + (if k = n then a else 0) = a
    by_cases e : k = n
    · rw [if_pos e, sm_congr (g := fun _ => 0) fun i hi => if_neg (by omega), sm_zero]; grind
    · rw [if_neg e, ih (by omega)]; grind
theorem sm_if (n : Nat) (P : Prop) [Decidable P] (f : Nat → Rat) : sm n (fun i => if P then f i else 0) = if P then sm n f else 0 := by
  by_cases h : P
  · rw [if_pos h]; exact sm_congr fun i _ => if_pos h
  · rw [if_neg h, sm_congr (g := fun _ => 0) fun i _ => if_neg h, sm_zero]

/-! ### the greatest of the first k + 1 -/
def mx : Nat → (Nat → Rat) → Rat
  | 0, f => f 0
  | k + 1, f => if mx k f < f (k + 1) then f (k + 1) else mx k f
theorem mx_ge {k : Nat} {f : Nat → Rat} : ∀ i, i ≤ k → f i ≤ mx k f := by
  induction k with
  | zero => intro i hi; have : i = 0 := by omega
            subst this; exact Rat.le_refl
  | succ k ih =>
    intro i hi
    show f i ≤ if mx k f < f (k + 1) then f (k + 1) else mx k f
    by_cases e : i = k + 1
    · subst e; split <;> grind
    · have := ih i (by omega)
      split <;> grind
theorem mx_in (k : Nat) (f : Nat → Rat) : ∃ i, i ≤ k ∧ mx k f = f i := by
  induction k with
  | zero => exact ⟨0, Nat.le_refl _, rfl⟩
  | succ k ih =>
    obtain ⟨i, hi, e⟩ := ih
    show ∃ j, j ≤ k + 1 ∧ (if mx k f < f (k + 1) then f (k + 1) else mx k f) = f j
    by_cases h : mx k f < f (k + 1)
    · rw [if_pos h]; exact ⟨k + 1, Nat.le_refl _, rfl⟩
    · rw [if_neg h]; exact ⟨i, by omega, e⟩
theorem mx_le {k : Nat} {f : Nat → Rat} {b : Rat} (h : ∀ i, i ≤ k → f i ≤ b) : mx k f ≤ b := by
  obtain ⟨i, hi, e⟩ := mx_in k f
  rw [e]; exact h i hi
theorem mx_congr {k : Nat} {f g : Nat → Rat} (h : ∀ i, i ≤ k → f i = g i) : mx k f = mx k g := by
  induction k with
  | zero => exact h 0 (Nat.le_refl _)
  | succ k ih =>
    show (if mx k f < f (k + 1) then f (k + 1) else mx k f) = if mx k g < g (k + 1) then g (k + 1) else mx k g
    rw [ih fun i hi => h i (by omega), h (k + 1) (Nat.le_refl _)]
theorem mx_is {k : Nat} {f : Nat → Rat} {b : Rat} (h1 : ∀ i, i ≤ k → f i ≤ b) (h2 : ∃ i, i ≤ k ∧ f i = b) : mx k f = b := by
  obtain ⟨i, hi, e⟩ := h2
  have a := mx_ge (f := f) i hi
  have c := mx_le h1
  grind

/-! ### the best by sight -/
/-- what is needed of a house: N stands, g s d the deed's gain, p s d t its chance to lead to t, r the share -/
structure Mdl where
  N : Nat
  r : Rat
  g : Nat → Nat → Rat
  p : Nat → Nat → Nat → Rat
section
variable (A : Mdl)
/-- what is behind deed d at mark m, by sight σ -/
def bh (σ : Nat → Nat) (m : Nat) (x : Nat → Rat) (d : Nat) (t : Nat) : Rat := sm A.N fun s => if σ s = m then x s * A.p s d t else 0
def gn (σ : Nat → Nat) (m : Nat) (x : Nat → Rat) (d : Nat) : Rat := sm A.N fun s => if σ s = m then x s * A.g s d else 0
/-- M marks, D m + 1 deeds at the mark m -/
def bst (σ : Nat → Nat) (M : Nat) (D : Nat → Nat) : Nat → Nat → (Nat → Rat) → Rat
  | 0, _, _ => 0
  | n + 1, m, x => mx (D m) fun d => gn A σ m x d + A.r * sm M fun j => bst σ M D n j (bh A σ m x d)
def tot (σ : Nat → Nat) (M : Nat) (D : Nat → Nat) (n : Nat) (x : Nat → Rat) : Rat := sm M fun j => bst A σ M D n j x
def vl (σ : Nat → Nat) (M : Nat) (D : Nat → Nat) (n m : Nat) (x : Nat → Rat) (d : Nat) : Rat := gn A σ m x d + A.r * tot A σ M D n (bh A σ m x d)
theorem bst_succ (σ : Nat → Nat) (M : Nat) (D : Nat → Nat) (n m : Nat) (x : Nat → Rat) : bst A σ M D (n + 1) m x = mx (D m) (vl A σ M D n m x) := rfl
variable {A}
theorem bst_congr {σ : Nat → Nat} {M : Nat} {D : Nat → Nat} {m : Nat} : ∀ (n : Nat) {x y : Nat → Rat}, (∀ s, s < A.N → σ s = m → x s = y s) → bst A σ M D n m x = bst A σ M D n m y
  | 0, _, _, _ => rfl
  | n + 1, x, y, h => by
    have e1 : ∀ d, gn A σ m x d = gn A σ m y d := fun d => sm_congr fun s hs => by
      by_cases q : σ s = m
      · rw [if_pos q, if_pos q, h s hs q]
      · rw [if_neg q, if_neg q]
    have e2 : ∀ d, bh A σ m x d = bh A σ m y d := fun d => funext fun t => sm_congr fun s hs => by
      by_cases q : σ s = m
      · rw [if_pos q, if_pos q, h s hs q]
      · rw [if_neg q, if_neg q]
    rw [bst_succ, bst_succ]
    refine mx_congr fun d _ => ?_
    unfold vl
    rw [e1, e2]
theorem bh_add (σ : Nat → Nat) (m : Nat) (x y : Nat → Rat) (d : Nat) : bh A σ m (fun s => x s + y s) d = fun t => bh A σ m x d t + bh A σ m y d t := funext fun t => by
  unfold bh
  rw [← sm_add]
  refine sm_congr fun s _ => ?_
  by_cases q : σ s = m
  · simp only [if_pos q]; grind
  · simp only [if_neg q]; grind
theorem gn_add (σ : Nat → Nat) (m : Nat) (x y : Nat → Rat) (d : Nat) : gn A σ m (fun s => x s + y s) d = gn A σ m x d + gn A σ m y d := by
  unfold gn
  rw [← sm_add]
  refine sm_congr fun s _ => ?_
  by_cases q : σ s = m
  · simp only [if_pos q]; grind
  · simp only [if_neg q]; grind
/-- the best is subadditive in the hold -/
theorem bst_sub (hr : 0 ≤ A.r) {σ : Nat → Nat} {M : Nat} {D : Nat → Nat} : ∀ (n m : Nat) (x y : Nat → Rat), bst A σ M D n m (fun s => x s + y s) ≤ bst A σ M D n m x + bst A σ M D n m y
  | 0, _, _, _ => by show (0 : Rat) ≤ 0 + 0; grind
  | n + 1, m, x, y => by
    rw [bst_succ, bst_succ, bst_succ]
    refine mx_le fun d hd => ?_
    have h1 := mx_ge (f := vl A σ M D n m x) d hd
    have h2 := mx_ge (f := vl A σ M D n m y) d hd
    have h3 : tot A σ M D n (bh A σ m (fun s => x s + y s) d) ≤ tot A σ M D n (bh A σ m x d) + tot A σ M D n (bh A σ m y d) := by
      rw [bh_add]
      unfold tot
      rw [← sm_add]
      exact sm_le fun j _ => bst_sub hr n j _ _
    have h4 := Rat.mul_le_mul_of_nonneg_left h3 hr
    unfold vl at h1 h2 ⊢
    rw [gn_add]
    grind
theorem tot_sub (hr : 0 ≤ A.r) {σ : Nat → Nat} {M : Nat} {D : Nat → Nat} (n : Nat) (x y : Nat → Rat) : tot A σ M D n (fun s => x s + y s) ≤ tot A σ M D n x + tot A σ M D n y := by
  unfold tot
  rw [← sm_add]
  exact sm_le fun j _ => bst_sub hr n j _ _
/-- nothing from nothing -/
theorem bst_nil {σ : Nat → Nat} {M : Nat} {D : Nat → Nat} : ∀ (n m : Nat), bst A σ M D n m (fun _ => 0) = 0
  | 0, _ => rfl
  | n + 1, m => by
    rw [bst_succ]
    have e : ∀ d, vl A σ M D n m (fun _ => 0) d = 0 := fun d => by
      have e1 : bh A σ m (fun _ => 0) d = fun _ => 0 := funext fun t => by
        unfold bh
        rw [sm_congr (g := fun _ => 0), sm_zero]
        intro s _
        split
        · grind
        · rfl
      have e2 : gn A σ m (fun _ => 0) d = 0 := by
        unfold gn
        rw [sm_congr (g := fun _ => 0), sm_zero]
        intro s _
        split
        · grind
        · rfl
      unfold vl tot
      rw [e1, e2, sm_congr (g := fun _ => 0) fun j _ => bst_nil n j, sm_zero]
      grind
    exact mx_is (fun d _ => by rw [e d]; exact Rat.le_refl) ⟨0, Nat.zero_le _, e 0⟩
theorem tot_nil {σ : Nat → Nat} {M : Nat} {D : Nat → Nat} (n : Nat) : tot A σ M D n (fun _ => 0) = 0 := by
  unfold tot
  rw [sm_congr (g := fun _ => 0) fun j _ => bst_nil n j, sm_zero]
/-- .. for a sum of k holds -/
theorem tot_subs (hr : 0 ≤ A.r) {σ : Nat → Nat} {M : Nat} {D : Nat → Nat} (n k : Nat) (x : Nat → Nat → Rat) : tot A σ M D n (fun s => sm k fun i => x i s) ≤ sm k fun i => tot A σ M D n (x i) := by
  induction k with
  | zero =>
    show tot A σ M D n (fun _ => 0) ≤ 0
    rw [tot_nil]
    exact Rat.le_refl
  | succ k ih =>
    have h := tot_sub (A := A) hr (σ := σ) (M := M) (D := D) n (fun s => sm k fun i => x i s) (x k)
    show tot A σ M D n (fun s => (sm k fun i => x i s) + x k s) ≤ (sm k fun i => tot A σ M D n (x i)) + tot A σ M D n (x k)
    grind

/-! ### a finer sight brings no less -/
section
variable {σ : Nat → Nat} {f : Nat → Nat} {M M' k : Nat}
theorem tot_fine (hr : 0 ≤ A.r) (hσ : ∀ s, s < A.N → σ s < M) (hf : ∀ m, m < M → f m < M') : ∀ (n : Nat) (x : Nat → Rat), tot A (fun s => f (σ s)) M' (fun _ => k) n x ≤ tot A σ M (fun _ => k) n x
  | 0, x => by
    show sm M' (fun _ => 0) ≤ sm M (fun _ => 0)
    rw [sm_zero, sm_zero]
    exact Rat.le_refl
  | n + 1, x => by
    have step : ∀ j, bst A (fun s => f (σ s)) M' (fun _ => k) (n + 1) j x ≤ sm M fun m => if f m = j then bst A σ M (fun _ => k) (n + 1) m x else 0 := fun j => by
      rw [bst_succ]
      refine mx_le fun d hd => ?_
      -- what is split by marks
      have sp : ∀ q : Nat → Rat, sm A.N (fun s => if f (σ s) = j then q s else 0) = sm M fun m => if f m = j then sm A.N (fun s => if σ s = m then q s else 0) else 0 := fun q => by
        have e : ∀ m, (if f m = j then sm A.N (fun s => if σ s = m then q s else 0) else 0) = sm A.N fun s => if σ s = m then (if f (σ s) = j then q s else 0) else 0 := fun m => by
          rw [← sm_if]
          refine sm_congr fun s _ => ?_
          by_cases a : σ s = m
          · rw [if_pos a, if_pos a, a]
          · rw [if_neg a, if_neg a]; split <;> rfl
        rw [sm_congr fun m _ => e m, sm_swap]
        refine sm_congr fun s hs => ?_
        exact (sm_one _ (hσ s hs)).symm
      have e1 : gn A (fun s => f (σ s)) j x d = sm M fun m => if f m = j then gn A σ m x d else 0 := sp fun s => x s * A.g s d
      have e2 : bh A (fun s => f (σ s)) j x d = fun t => sm M fun m => if f m = j then bh A σ m x d t else 0 := funext fun t => sp fun s => x s * A.p s d t
      have h1 : tot A (fun s => f (σ s)) M' (fun _ => k) n (bh A (fun s => f (σ s)) j x d) ≤ sm M fun m => if f m = j then tot A σ M (fun _ => k) n (bh A σ m x d) else 0 := by
        have a := tot_fine hr hσ hf n (bh A (fun s => f (σ s)) j x d)
        have b := tot_subs (A := A) hr (σ := σ) (M := M) (D := fun _ => k) n M (fun m t => if f m = j then bh A σ m x d t else 0)
        rw [← e2] at b
        have c : ∀ m, tot A σ M (fun _ => k) n (fun t => if f m = j then bh A σ m x d t else 0) = if f m = j then tot A σ M (fun _ => k) n (bh A σ m x d) else 0 := fun m => by
          by_cases q : f m = j
          · simp only [if_pos q]
          · simp only [if_neg q]; exact tot_nil n
        rw [sm_congr fun m _ => c m] at b
        grind
      have h2 := Rat.mul_le_mul_of_nonneg_left h1 hr
      have h3 : (sm M fun m => if f m = j then gn A σ m x d else 0) + A.r * (sm M fun m => if f m = j then tot A σ M (fun _ => k) n (bh A σ m x d) else 0) ≤ sm M fun m => if f m = j then bst A σ M (fun _ => k) (n + 1) m x else 0 := by
        rw [← sm_mul, ← sm_add]
        refine sm_le fun m _ => ?_
        by_cases q : f m = j
        · simp only [if_pos q]
          rw [bst_succ]
          exact mx_ge (f := vl A σ M (fun _ => k) n m x) d hd
        · simp only [if_neg q]; grind
      show gn A _ j x d + A.r * tot A _ M' _ n _ ≤ _
      rw [e1]
      grind
    have all := sm_le (n := M') fun j _ => step j
    rw [sm_swap] at all
    have e : ∀ m, m < M → sm M' (fun j => if f m = j then bst A σ M (fun _ => k) (n + 1) m x else 0) = bst A σ M (fun _ => k) (n + 1) m x := fun m hm => sm_one _ (hf m hm)
    rw [sm_congr e] at all
    exact all
end
/-! ### beside the worths of all stands -/
section
variable (A)
/-- worths with n steps left; E s + 1 deeds at the stand s -/
def wr (E : Nat → Nat) : Nat → Nat → Rat
  | 0, _ => 0
  | n + 1, s => mx (E s) fun d => A.g s d + A.r * sm A.N fun t => A.p s d t * wr E n t
variable {A} {σ : Nat → Nat} {M : Nat} {D E : Nat → Nat}
theorem split_m (hσ : ∀ s, s < A.N → σ s < M) (q : Nat → Rat) : sm M (fun m => sm A.N fun s => if σ s = m then q s else 0) = sm A.N q := by
  rw [sm_swap]
  exact sm_congr fun s hs => sm_one _ (hσ s hs)
theorem bh_dot (m : Nat) (x : Nat → Rat) (d : Nat) (v : Nat → Rat) : sm A.N (fun t => bh A σ m x d t * v t) = sm A.N fun s => if σ s = m then x s * sm A.N (fun t => A.p s d t * v t) else 0 := by
  have e : ∀ t, bh A σ m x d t * v t = sm A.N fun s => if σ s = m then x s * (A.p s d t * v t) else 0 := fun t => by
    have : bh A σ m x d t * v t = v t * bh A σ m x d t := by grind
    rw [this]
    unfold bh
    rw [← sm_mul]
    refine sm_congr fun s _ => ?_
    by_cases q : σ s = m
    · simp only [if_pos q]; grind
    · simp only [if_neg q]; grind
  rw [sm_congr fun t _ => e t, sm_swap]
  refine sm_congr fun s _ => ?_
  rw [sm_if, sm_mul]
theorem bh_nn (hp : ∀ s d t, s < A.N → 0 ≤ A.p s d t) {x : Nat → Rat} (hx : ∀ s, s < A.N → 0 ≤ x s) (m d t : Nat) : 0 ≤ bh A σ m x d t := sm_nn fun s hs => by
  split
  · exact Rat.mul_nonneg (hx s hs) (hp s d t hs)
  · exact Rat.le_refl
/-- seen all: no sight brings more -/
theorem tot_le (hr : 0 ≤ A.r) (hp : ∀ s d t, s < A.N → 0 ≤ A.p s d t) (hσ : ∀ s, s < A.N → σ s < M) (hD : ∀ s, s < A.N → D (σ s) = E s) : ∀ (n : Nat) (x : Nat → Rat), (∀ s, s < A.N → 0 ≤ x s) → tot A σ M D n x ≤ sm A.N fun s => x s * wr A E n s
  | 0, x, _ => by
    show sm M (fun _ => 0) ≤ sm A.N (fun s => x s * 0)
    rw [sm_zero, sm_congr (g := fun _ => 0) fun s _ => by grind, sm_zero]
    exact Rat.le_refl
  | n + 1, x, hx => by
    have step : ∀ m, bst A σ M D (n + 1) m x ≤ sm A.N fun s => if σ s = m then x s * wr A E (n + 1) s else 0 := fun m => by
      rw [bst_succ]
      refine mx_le fun d hd => ?_
      have h1 := tot_le hr hp hσ hD n (bh A σ m x d) fun t _ => bh_nn hp hx m d t
      rw [bh_dot] at h1
      have h2 := Rat.mul_le_mul_of_nonneg_left h1 hr
      have h3 : gn A σ m x d + A.r * (sm A.N fun s => if σ s = m then x s * sm A.N (fun t => A.p s d t * wr A E n t) else 0) ≤ sm A.N fun s => if σ s = m then x s * wr A E (n + 1) s else 0 := by
        unfold gn
        rw [← sm_mul, ← sm_add]
        refine sm_le fun s hs => ?_
        by_cases q : σ s = m
        · simp only [if_pos q]
          have a := mx_ge (k := E s) (f := fun d => A.g s d + A.r * sm A.N fun t => A.p s d t * wr A E n t) d (by rw [← hD s hs, q]; exact hd)
          have b := Rat.mul_le_mul_of_nonneg_left a (hx s hs)
          show x s * A.g s d + A.r * (x s * _) ≤ x s * wr A E (n + 1) s
          have c : wr A E (n + 1) s = mx (E s) fun d => A.g s d + A.r * sm A.N fun t => A.p s d t * wr A E n t := rfl
          rw [c]
          grind
        · simp only [if_neg q]; grind
      unfold vl
      grind
    have all := sm_le (n := M) fun m _ => step m
    rw [split_m hσ] at all
    exact all
/-- each stand its own mark: just as much -/
theorem tot_own (hr : 0 ≤ A.r) (hp : ∀ s d t, s < A.N → 0 ≤ A.p s d t) (hσ : ∀ s, s < A.N → σ s < M) (hD : ∀ s, s < A.N → D (σ s) = E s) (hi : ∀ s t, s < A.N → t < A.N → σ s = σ t → s = t) :
    ∀ (n : Nat) (x : Nat → Rat), (∀ s, s < A.N → 0 ≤ x s) → tot A σ M D n x = sm A.N fun s => x s * wr A E n s
  | 0, x, _ => by
    show sm M (fun _ => 0) = sm A.N (fun s => x s * 0)
    rw [sm_zero, sm_congr (g := fun _ => 0) fun s _ => by grind, sm_zero]
  | n + 1, x, hx => by
    have low := tot_le hr hp hσ hD (n + 1) x hx
    have step : ∀ m, (sm A.N fun s => if σ s = m then x s * wr A E (n + 1) s else 0) ≤ bst A σ M D (n + 1) m x := fun m => by
      by_cases h : ∃ s, s < A.N ∧ σ s = m
      · obtain ⟨s0, h0, e0⟩ := h
        have only : ∀ q : Nat → Rat, sm A.N (fun s => if σ s = m then q s else 0) = q s0 := fun q => by
          rw [← sm_one (n := A.N) (k := s0) (q s0) h0]
          refine sm_congr fun s hs => ?_
          by_cases a : s0 = s
          · subst a; rw [if_pos e0, if_pos rfl]
          · rw [if_neg a, if_neg fun z => a (hi s0 s h0 hs (e0.trans z.symm))]
        rw [only]
        obtain ⟨d, hd, e⟩ := mx_in (E s0) fun d => A.g s0 d + A.r * sm A.N fun t => A.p s0 d t * wr A E n t
        have c : wr A E (n + 1) s0 = mx (E s0) fun d => A.g s0 d + A.r * sm A.N fun t => A.p s0 d t * wr A E n t := rfl
        rw [c, e, bst_succ]
        have a := mx_ge (k := D m) (f := vl A σ M D n m x) d (by rw [← e0, hD s0 h0]; exact hd)
        have b : vl A σ M D n m x d = x s0 * A.g s0 d + A.r * (x s0 * sm A.N fun t => A.p s0 d t * wr A E n t) := by
          unfold vl
          rw [tot_own hr hp hσ hD hi n _ fun t _ => bh_nn hp hx m d t, bh_dot, only]
          unfold gn
          rw [only]
        grind
      · have z : sm A.N (fun s => if σ s = m then x s * wr A E (n + 1) s else 0) = 0 := by
          rw [sm_congr (g := fun _ => 0) fun s hs => if_neg fun q => h ⟨s, hs, q⟩, sm_zero]
        have y : bst A σ M D (n + 1) m x = 0 := by
          rw [bst_congr (y := fun _ => 0) (n + 1) fun s hs q => absurd ⟨s, hs, q⟩ h, bst_nil]
        rw [z, y]
        exact Rat.le_refl
    have all := sm_le (n := M) fun m _ => step m
    rw [split_m hσ] at all
    have al : (sm A.N fun s => x s * wr A E (n + 1) s) ≤ tot A σ M D (n + 1) x := all
    grind
end
end
end K66

/-! MathB: sizes of fractions (own work) -/
namespace K66
/-- q is z / D with z up to N without sign -/
def Bd (D N : Nat) (q : Rat) : Prop := 0 < D ∧ ∃ z : Int, q = mkRat z D ∧ z.natAbs ≤ N
theorem mk_add {D : Nat} (h : 0 < D) (y z : Int) : mkRat y D + mkRat z D = mkRat (y + z) D := by
  have h0 : (D : Int) ≠ 0 := by omega
  rw [← Rat.divInt_ofNat, ← Rat.divInt_ofNat, ← Rat.divInt_ofNat, Rat.divInt_add_divInt _ _ h0 h0]
  rw [show y * (D : Int) + z * (D : Int) = (y + z) * (D : Int) by rw [Int.add_mul]]
  exact Rat.divInt_mul_right h0
theorem mk_mul (y z : Int) (D E : Nat) : mkRat y D * mkRat z E = mkRat (y * z) (D * E) := by
  rw [← Rat.divInt_ofNat, ← Rat.divInt_ofNat, ← Rat.divInt_ofNat, Rat.divInt_mul_divInt]
  rw [Int.natCast_mul]
theorem mk_up {D k : Nat} (hk : 0 < k) (z : Int) : mkRat z D = mkRat (z * k) (D * k) := by
  have h0 : (k : Int) ≠ 0 := by omega
  rw [← Rat.divInt_ofNat, ← Rat.divInt_ofNat, Int.natCast_mul]
  exact (Rat.divInt_mul_right h0).symm
theorem Bd.mono {D N M : Nat} {q : Rat} (h : Bd D N q) (hn : N ≤ M) : Bd D M q := by
  obtain ⟨a, z, e, b⟩ := h
  exact ⟨a, z, e, Nat.le_trans b hn⟩
theorem Bd.add {D N M : Nat} {p q : Rat} (h : Bd D N p) (g : Bd D M q) : Bd D (N + M) (p + q) := by
  obtain ⟨a, z, e, b⟩ := h
  obtain ⟨_, y, e2, b2⟩ := g
  exact ⟨a, z + y, by rw [e, e2, mk_add a], by omega⟩
theorem Bd.mul {D E N M : Nat} {p q : Rat} (h : Bd D N p) (g : Bd E M q) : Bd (D * E) (N * M) (p * q) := by
  obtain ⟨a, z, e, b⟩ := h
  obtain ⟨a2, y, e2, b2⟩ := g
  exact ⟨Nat.mul_pos a a2, z * y, by rw [e, e2, mk_mul], by rw [Int.natAbs_mul]; exact Nat.mul_le_mul b b2⟩
theorem Bd.up {D N k : Nat} {q : Rat} (h : Bd D N q) (hk : 0 < k) : Bd (D * k) (N * k) q := by
  obtain ⟨a, z, e, b⟩ := h
  refine ⟨Nat.mul_pos a hk, z * k, by rw [e, ← mk_up hk], ?_⟩
  rw [Int.natAbs_mul, Int.natAbs_natCast]
  exact Nat.mul_le_mul_right _ b
theorem Bd.upL {D N k : Nat} {q : Rat} (h : Bd D N q) (hk : 0 < k) : Bd (k * D) (k * N) q := by
  rw [Nat.mul_comm k D, Nat.mul_comm k N]
  exact h.up hk
theorem Bd.zero {D : Nat} (h : 0 < D) (N : Nat) : Bd D N 0 := ⟨h, 0, by rw [Rat.zero_mkRat], Nat.zero_le _⟩
theorem Bd.num {D N : Nat} {q : Rat} (h : Bd D N q) : q.num.natAbs ≤ N := by
  obtain ⟨a, z, e, b⟩ := h
  rw [e, Rat.num_mkRat, if_neg (by omega)]
  have := Int.natAbs_ediv_le_natAbs z ((D.gcd z.natAbs : Nat) : Int)
  omega
theorem Bd.den {D N : Nat} {q : Rat} (h : Bd D N q) : q.den ≤ D := by
  obtain ⟨a, z, e, b⟩ := h
  rw [e, Rat.den_mkRat, if_neg (by omega)]
  exact Nat.div_le_self _ _
theorem Bd.of (q : Rat) (N : Nat) (h : q.num.natAbs ≤ N) : Bd q.den N q := ⟨Nat.pos_of_ne_zero q.den_nz, q.num, (Rat.mkRat_self q).symm, h⟩
/-- small enough for every operation -/
structure Sz (q : Rat) : Prop where
  n : q.num.natAbs < 2 ^ 3000
  d : q.den < 2 ^ 3000
theorem Bd.sz {D N : Nat} {q : Rat} (h : Bd D N q) (hD : D < 2 ^ 3000) (hN : N < 2 ^ 3000) : Sz q := ⟨Nat.lt_of_le_of_lt h.num hN, Nat.lt_of_le_of_lt h.den hD⟩
/-! ### what the program's ratio reckons -/
theorem den_pos (q : Rat) : (0 : Int) < q.den := by
  have := q.den_nz
  omega
theorem mk_num {n : Int} {d : Int} (hd : 0 < d) : (mkRat n d.natAbs).num = n / (Nat.gcd n.natAbs d.natAbs : Nat) := by
  rw [Rat.num_mkRat, if_neg (by omega), Nat.gcd_comm]
theorem mk_den {n : Int} {d : Int} (hd : 0 < d) : ((mkRat n d.natAbs).den : Int) = d / (Nat.gcd n.natAbs d.natAbs : Nat) := by
  rw [Rat.den_mkRat, if_neg (by omega), Nat.gcd_comm, Int.natCast_ediv, Int.natAbs_of_nonneg (Int.le_of_lt hd)]
theorem add_mk (p q : Rat) : mkRat (p.num * q.den + q.num * p.den) ((p.den : Int) * q.den).natAbs = p + q := by
  rw [Rat.add_def', Int.natAbs_mul, Int.natAbs_natCast, Int.natAbs_natCast]
theorem mul_mk (p q : Rat) : mkRat (p.num * q.num) ((p.den : Int) * q.den).natAbs = p * q := by
  rw [Rat.mul_def', Int.natAbs_mul, Int.natAbs_natCast, Int.natAbs_natCast]
end K66

/-! RulesK: rules that the layer lacks: enumerate of a tuple, zip of a list and a tuple, max of a tuple, its index, repr (own work) -/
namespace K66
open PySem PySem.Spec PyProof.Rows L2
/-! ### sources: a tuple (true), a list (false) -/
def SqX (K : PySem.W.Frag) : Bool → Hp → Addr → List V → Prop
  | true => SqT K
  | false => SqL K
def SrcAt (h : Heap) (l : Addr) (xs : Array Value) : Bool → Prop
  | true => h.IsTuple l xs
  | false => h.IsList l xs
def IterAt (h : Heap) (it l : Addr) (i : Nat) : Bool → Prop
  | true => h.IsTupleIter it l i
  | false => h.IsListIter it l i
def iterO (l : Addr) : Bool → Obj
  | true => { cls := .type "tuple_iterator", data := .fields #[.ref l, .int 0 0] }
  | false => { cls := .type "list_iterator", data := .fields #[.ref l, .int 0 0] }
theorem IterAt.moved {h h' : Heap} {it l : Addr} {i : Nat} {t : Bool} (q : IterAt h it l i t)
    (k : ∀ o, h.get? it = some o → h'.get? it = some o) : IterAt h' it l i t := by
  cases t
  · exact Heap.IsListIter.at q k
  · exact Heap.IsTupleIter.at q k
theorem IterAt.there {h : Heap} {it l : Addr} {i : Nat} {t : Bool} (q : IterAt h it l i t) : ∃ o, h.get? it = some o ∧ ∀ v, o.data ≠ .cell v := by
  cases t
  · obtain ⟨o, e, _, d⟩ := q
    exact ⟨o, e, fun v z => by rw [d] at z; cases z⟩
  · obtain ⟨o, e, _, d⟩ := q
    exact ⟨o, e, fun v z => by rw [d] at z; cases z⟩
theorem IterAt.first {h : Heap} {it l : Addr} {t : Bool} (q : h.get? it = some (iterO l t)) : IterAt h it l 0 t := by
  cases t
  · exact ⟨_, q, rfl, rfl⟩
  · exact ⟨_, q, rfl, rfl⟩
theorem begins_x (l : Addr) (xs : Array Value) : ∀ t : Bool, Begins (.ref l) (iterO l t) (fun h => SrcAt h l xs t)
  | true => begins_tuple l xs
  | false => begins_list l xs
theorem draws_x {P : Program} {w : World} {A : Around} (hh : A.handled = none) (it l : Addr) (ne : l ≠ it) (xs : Array Value) : ∀ t : Bool,
    Draws P w A it [it, l] xs.size (fun i v => xs[i]? = some v) (fun i h => IterAt h it l i t ∧ SrcAt h l xs t)
  | true => Draws.tuple hh it l ne xs
  | false => Draws.list hh it l ne xs
section
variable {X : Cx} {pins : List (Addr × Obj)} {σ : L2.St} {H : Hp} {s : Shared} {a : Addr} {xs ys : List V}
theorem src_of (I : Inv X pins σ H s) {t : Bool} (h : SqX X.K t H a xs) : ∃ us : List Value, Vals xs us ∧ SrcAt s.heap a us.toArray t ∧ a < s.heap.objs.size := by
  cases t
  · obtain ⟨us, r, p, _⟩ := I.list h
    exact ⟨us, r, p.isList, p.lt⟩
  · obtain ⟨us, r, p, _⟩ := I.tuple h
    obtain ⟨o, e, _⟩ := id p
    exact ⟨us, r, p, Heap.lt_size e⟩
theorem src_inj (I : Inv X pins σ H s) {t : Bool} (h : SqX X.K t H a xs) (h' : SqX X.K t H a ys) : xs = ys := by
  cases t
  · exact I.list_inj h h'
  · exact I.tuple_inj h h'
end
theorem apart_x {h : Heap} {a it l : Addr} {i : Nat} {us : Array Value} {t u : Bool} (p : SrcAt h a us t) (q : IterAt h it l i u) : a ≠ it := fun e => by
  obtain ⟨o, eo, ec⟩ : ∃ o, h.get? it = some o ∧ (o.cls = .type "list_iterator" ∨ o.cls = .type "tuple_iterator") := by
    cases u
    · obtain ⟨o, e, c, _⟩ := q; exact ⟨o, e, .inl c⟩
    · obtain ⟨o, e, c, _⟩ := q; exact ⟨o, e, .inr c⟩
  obtain ⟨o2, eo2, ec2⟩ : ∃ o, h.get? a = some o ∧ (o.cls = .type "list" ∨ o.cls = .type "tuple") := by
    cases t
    · obtain ⟨o, e, c, _⟩ := p; exact ⟨o, e, .inl c⟩
    · obtain ⟨o, e, c, _⟩ := p; exact ⟨o, e, .inr c⟩
  rw [e, eo] at eo2
  cases eo2
  rcases ec with q | q <;> rcases ec2 with z | z <;> exact absurd (Value.type.inj (q.symm.trans z)) (by decide)
/-! ### pairs that come one by one -/
/-- n new pairs of the i-th left thing and the i-th right one -/
def ItX (K : PySem.W.Frag) (t1 t2 : Bool) (a b : Addr) : It where
  go := fun i H => ∃ (xs ys : List V) (x y : V), (SqX K t1 H a xs ∧ xs[i]? = some x) ∧ (SqX K t2 H b ys ∧ ys[i]? = some y)
  yld := fun i H v H' => ∃ T x y, (v = .ref T ∧ H T = none) ∧ H' = upd H T (.tup [x, y]) ∧ (∀ xs, SqX K t1 H a xs → xs[i]? = some x) ∧ (∀ ys, SqX K t2 H b ys → ys[i]? = some y)
  stop := fun i H => ∃ xs ys : List V, (SqX K t1 H a xs ∧ SqX K t2 H b ys) ∧ (xs.length = i ∧ i ≤ ys.length ∨ ys.length = i ∧ i ≤ xs.length)
theorem turn_x {P : Program} {w : World} {K : PySem.W.Frag} {elts : List Expr} {kk : Nat} {tp : Pos} {t1 t2 : Bool} {a b z TI TO i1 i2 : Addr} (S : ZipSep2 z TI TO i1 i2 [i1, a] [i2, b]) :
    Turn P w K (.Tuple elts kk tp) (ItX K t1 t2 a b) [z, TI, TO, i1, i2] z
      (fun i h => (IsZip h z TI TO .none ∧ IsTupOf2 h TI (.ref i1) (.ref i2)) ∧ (∃ x y, IsTupOf2 h TO x y) ∧ IterAt h i1 a i t1 ∧ IterAt h i2 b i t2) where
  mem := List.mem_cons_self ..
  obj := by
    intro i h st c hc
    obtain ⟨⟨e1, e2⟩, ⟨x, y, e3⟩, q1, q2⟩ := st
    simp only [List.mem_cons, List.not_mem_nil, or_false] at hc
    rcases hc with rfl | rfl | rfl | rfl | rfl
    · exact ⟨_, e1, fun v q => nomatch q⟩
    · exact ⟨_, e2, fun v q => nomatch q⟩
    · exact ⟨_, e3, fun v q => nomatch q⟩
    · exact q1.there
    · exact q2.there
  keep := by
    intro i h h' st k
    obtain ⟨⟨e1, e2⟩, ⟨x, y, e3⟩, q1, q2⟩ := st
    exact ⟨⟨k _ (by simp) _ e1, k _ (by simp) _ e2⟩, ⟨x, y, k _ (by simp) _ e3⟩, q1.moved (k _ (by simp)), q2.moved (k _ (by simp))⟩
  item := by
    rintro X rfl rfl rfl hc i pins s σ H E I hf st ⟨xs, ys, x, y, ⟨sx, gx⟩, sy, gy⟩
    obtain ⟨⟨e1, e2⟩, ⟨x0, y0, e3⟩, q1, q2⟩ := st
    obtain ⟨us, ru, pu, _⟩ := src_of I sx
    obtain ⟨ws, rw', pw', _⟩ := src_of I sy
    have hh : X.A.in1.handled = none := I.ok.hd hc
    have n1 : a ≠ i1 := apart_x pu q1
    have n2 : b ≠ i2 := apart_x pw' q2
    have D1 := draws_x (P := X.prog) (w := X.w) hh i1 a n1 us.toArray t1
    have D2 := draws_x (P := X.prog) (w := X.w) hh i2 b n2 ws.toArray t2
    have lx : i < us.toArray.size := by
      have := (List.getElem?_eq_some_iff.mp gx).1
      have := ru.length
      simp; omega
    have ly : i < ws.toArray.size := by
      have := (List.getElem?_eq_some_iff.mp gy).1
      have := rw'.length
      simp; omega
    refine wpAny_pyNext_zipD2_item S D1 D2 e1 e2 e3 ⟨q1, pu⟩ ⟨q2, pw'⟩ lx ly fun u1 u2 h' tk g1 g2 z' TO' st1 st2 hT hsz hk => ?_
    refine ⟨_, rfl, wpAny_letOwnedTupleGo_zip (s := { s with heap := h', toks := tk }) z' fun h2 z2 sb => ?_⟩
    have ltz : ∀ {c o}, s.heap.get? c = some o → c ≠ s.heap.objs.size := fun e => Nat.ne_of_lt (Heap.lt_size e)
    obtain ⟨o1, eo1, _⟩ := q1.there
    obtain ⟨o2, eo2, _⟩ := q2.there
    have newT : h2.get? s.heap.objs.size = some { cls := .type "tuple", data := .seq #[u1, u2] } := (sb.2 _ (ltz e1).symm).trans hT
    obtain ⟨v1, f1, r1⟩ := ru.get gx
    obtain ⟨v2, f2, r2⟩ := rw'.get gy
    have s1 : v1 = u1 := Option.some.inj (f1.symm.trans (by simpa using g1))
    have s2 : v2 = u2 := Option.some.inj (f2.symm.trans (by simpa using g2))
    rw [s1] at r1
    rw [s2] at r2
    have I1 : Inv X pins σ (upd H s.heap.objs.size (.tup [x, y])) { s with heap := h2, toks := tk } := by
      refine I.turnedNew (ch := [z, TI, TO, i1, i2]) (fun c o hc2 q => ?_) hf (Nat.le_refl _) ⟨by show 2 ≤ sizeLine; decide, [u1, u2], .cons r1 (.cons r2 .nil), ⟨_, newT, rfl, _, rfl⟩⟩
      have m : ∀ d ∈ [z, TI, TO, i1, i2], c ≠ d := fun d hd e => hc2 (e ▸ hd)
      exact (sb.2 c (m z (by simp))).trans (hk c o (m z (by simp)) (m TO (by simp)) (m i1 (by simp)) (m i2 (by simp)) q)
    have far : ∀ c ∈ [z, TI, TO, i1, i2], upd H s.heap.objs.size (.tup [x, y]) c = none := fun c hc2 => by
      have lc : c ≠ s.heap.objs.size := by
        simp only [List.mem_cons, List.not_mem_nil, or_false] at hc2
        rcases hc2 with rfl | rfl | rfl | rfl | rfl
        · exact ltz e1
        · exact ltz e2
        · exact ltz e3
        · exact ltz eo1
        · exact ltz eo2
      rw [upd_ne lc]
      exact (hf c hc2).1
    refine ⟨.ref s.heap.objs.size, _, I1, rfl, ⟨_, x, y, ⟨rfl, I.hok.fresh (Nat.le_refl _)⟩, rfl, fun l hl => by rw [src_inj I hl sx]; exact gx, fun l hl => by rw [src_inj I hl sy]; exact gy⟩, ⟨⟨z2, ?_⟩, ⟨u1, u2, ?_⟩, ?_, ?_⟩, far⟩
    · exact (sb.2 _ S.TIz).trans (hk _ _ S.TIz S.TITO S.TIi1 S.TIi2 e2)
    · exact (sb.2 _ S.TOz).trans TO'
    · exact st1.1.moved fun o q => (sb.2 _ (Ne.symm S.zi1)).trans q
    · exact st2.1.moved fun o q => (sb.2 _ (Ne.symm S.zi2)).trans q
  done := by
    rintro X rfl rfl rfl hc i pins s σ H E I hf st ⟨xs, ys, ⟨sx, sy⟩, hend⟩
    obtain ⟨⟨e1, e2⟩, ⟨x0, y0, e3⟩, q1, q2⟩ := st
    obtain ⟨us, ru, pu, _⟩ := src_of I sx
    obtain ⟨ws, rw', pw', _⟩ := src_of I sy
    have hh : X.A.in1.handled = none := I.ok.hd hc
    have n1 : a ≠ i1 := apart_x pu q1
    have n2 : b ≠ i2 := apart_x pw' q2
    have D1 := draws_x (P := X.prog) (w := X.w) hh i1 a n1 us.toArray t1
    have D2 := draws_x (P := X.prog) (w := X.w) hh i2 b n2 ws.toArray t2
    have lu := ru.length
    have lw := rw'.length
    refine wpAny_pyNext_zipD2_end S D1 D2 e1 e2 e3 ⟨q1, pu⟩ ⟨q2, pw'⟩ (by simp; omega) (by simp; omega) (by simp; omega) fun h' tk hk => ⟨rfl, ?_⟩
    refine I.turnedL (ch := [z, TI, TO, i1, i2]) (fun c o hc2 q => ?_) hf
    have m : ∀ d ∈ [z, TI, TO, i1, i2], c ≠ d := fun d hd e => hc2 (e ▸ hd)
    exact hk c o (m z (by simp)) (m TO (by simp)) (m i1 (by simp)) (m i2 (by simp)) q
  self := fun A i s Q E st h => wpAny_pyIter_zip st.1.1 h
def iZipX (K : PySem.W.Frag) (t1 t2 : Bool) (ta : TA) : TI := fun σ H R => ta σ H fun vs H1 => ∃ a b xs ys, vs = [.ref a, .ref b] ∧ SqX K t1 H1 a xs ∧ SqX K t2 H1 b ys ∧ R (ItX K t1 t2 a b) H1
theorem pi_zipX (t1 t2 : Bool) {X : Cx} {e e2 : Expr} {ta : TA} {p pos tp : Pos} {elts : List Expr} {kk : Nat} (hg : Gl X "zip") (hm : X.mg "zip" = none) (ha : PA X [e, e2] ta)
    (h1 : starEach [e, e2] X.env = (false, eval e X.env) :: starEach [e2] X.env := by rfl) (h2 : (backTo pos (starEach [e2] X.env)).any (·.1) = false := by rfl) :
    PI X (.Tuple elts kk tp) (.Call (.Name "zip" p) [e, e2] [] pos) (iZipX X.K t1 t2 ta) := by
  refine ⟨fun pins s σ H R I h => Call_ (ld_blt I hg hm boot_zip (PyProof.Rows.callWith_type1 (thn (ha.run pos pins s σ H _ I h) ?_) h1 h2))⟩
  rintro us s1 ⟨vs, H1, I1, r1, a, b, xs, ys, rfl, sx, sy, q⟩
  obtain ⟨u1, u2, rfl, q1, q2⟩ := Vals.two r1
  cases q1
  cases q2
  obtain ⟨us, ru, pu, la⟩ := src_of I1 sx
  obtain ⟨ws, rw', pw', lb⟩ := src_of I1 sy
  refine zip_begins2 (begins_x a us.toArray t1) (begins_x b ws.toArray t2) pu pw' fun h' z0 TI0 TO0 f1 f2 hsz hk => wpAny_pyIter_zip z0 ?_
  have S := zip_sep2 (N := s1.heap.objs.size) (fp1 := [a]) (fp2 := [b]) (by simpa using la) (by simpa using lb)
  refine ⟨s1.heap.objs.size + 4, [s1.heap.objs.size + 4, s1.heap.objs.size + 2, s1.heap.objs.size + 3, s1.heap.objs.size, s1.heap.objs.size + 1], _, _, H1, rfl, I1.kept (t' := s1.toks) hk, turn_x S, ⟨⟨z0, TI0⟩, ⟨_, _, TO0⟩, .first f1, .first f2⟩, fun c hc => ?_, q⟩
  have hle : s1.heap.objs.size ≤ c := by
    simp only [List.mem_cons, List.not_mem_nil, or_false] at hc
    rcases hc with q | q | q | q | q <;> rw [q] <;> first | exact Nat.le_add_right _ _ | exact Nat.le_refl _
  exact I1.fpOk hle (I1.hok.fresh hle)
theorem pi_zipLT {X : Cx} {e e2 : Expr} {ta : TA} {p pos tp : Pos} {elts : List Expr} {kk : Nat} (hg : Gl X "zip") (hm : X.mg "zip" = none) (ha : PA X [e, e2] ta)
    (h1 : starEach [e, e2] X.env = (false, eval e X.env) :: starEach [e2] X.env := by rfl) (h2 : (backTo pos (starEach [e2] X.env)).any (·.1) = false := by rfl) :
    PI X (.Tuple elts kk tp) (.Call (.Name "zip" p) [e, e2] [] pos) (iZipX X.K false true ta) := pi_zipX false true hg hm ha h1 h2
theorem pi_zipTL {X : Cx} {e e2 : Expr} {ta : TA} {p pos tp : Pos} {elts : List Expr} {kk : Nat} (hg : Gl X "zip") (hm : X.mg "zip" = none) (ha : PA X [e, e2] ta)
    (h1 : starEach [e, e2] X.env = (false, eval e X.env) :: starEach [e2] X.env := by rfl) (h2 : (backTo pos (starEach [e2] X.env)).any (·.1) = false := by rfl) :
    PI X (.Tuple elts kk tp) (.Call (.Name "zip" p) [e, e2] [] pos) (iZipX X.K true false ta) := pi_zipX true false hg hm ha h1 h2
theorem pi_zipTT {X : Cx} {e e2 : Expr} {ta : TA} {p pos tp : Pos} {elts : List Expr} {kk : Nat} (hg : Gl X "zip") (hm : X.mg "zip" = none) (ha : PA X [e, e2] ta)
    (h1 : starEach [e, e2] X.env = (false, eval e X.env) :: starEach [e2] X.env := by rfl) (h2 : (backTo pos (starEach [e2] X.env)).any (·.1) = false := by rfl) :
    PI X (.Tuple elts kk tp) (.Call (.Name "zip" p) [e, e2] [] pos) (iZipX X.K true true ta) := pi_zipX true true hg hm ha h1 h2
theorem pi_zipLL {X : Cx} {e e2 : Expr} {ta : TA} {p pos tp : Pos} {elts : List Expr} {kk : Nat} (hg : Gl X "zip") (hm : X.mg "zip" = none) (ha : PA X [e, e2] ta)
    (h1 : starEach [e, e2] X.env = (false, eval e X.env) :: starEach [e2] X.env := by rfl) (h2 : (backTo pos (starEach [e2] X.env)).any (·.1) = false := by rfl) :
    PI X (.Tuple elts kk tp) (.Call (.Name "zip" p) [e, e2] [] pos) (iZipX X.K false false ta) := pi_zipX false false hg hm ha h1 h2
theorem walk_x {K : PySem.W.Frag} {t1 t2 : Bool} {a b : Addr} {xs ys : List V} {n : Nat} (hn : n = min xs.length ys.length) :
    Walk (ItX K t1 t2 a b) n (fun H => SqX K t1 H a xs ∧ SqX K t2 H b ys) (YPair (fun i => xs[i]?) (fun i => ys[i]?)) where
  goes := fun i H hi q => ⟨xs, ys, xs[i]'(by omega), ys[i]'(by omega), ⟨q.1, by simp [show i < xs.length by omega]⟩, q.2, by simp [show i < ys.length by omega]⟩
  stops := fun H q => ⟨xs, ys, q, by omega⟩
  yields := fun i H v H' hi q y => by
    obtain ⟨T, x, z, ⟨h1, h2⟩, h3, h4, h5⟩ := y
    exact ⟨T, x, z, h1, h2, h3, h4 xs q.1, h5 ys q.2⟩

/-! ### enumerate(tuple), enumerate(list) -/
theorem enum1_new {v : Value} {o : Obj} {G : Heap → Prop} (B : Begins v o G) :
    Meets (Builtin.«enumerate.__new__» ⟨[.type "enumerate", v], []⟩) (fun _ R s => G s.heap ∧
      R (.ok (.ret (.ref (s.heap.push o).objs.size))) { s with heap := (s.heap.push o).push { cls := .type "enumerate", data := .fields #[.none, .bool false, .ref s.heap.objs.size, rawInt 0, .none, .none] } }) :=
  .of_wp fun P w A R s h => by
    obtain ⟨hp, gg, dd, kk, oo⟩ := s
    obtain ⟨hG, h⟩ := h
    have su := sub_enumerate
    have it1 : ∀ {A2 : Around} {E : Value → Shared → Prop} {Q : Value → Shared → Prop}, Q (.ref hp.objs.size) ⟨hp.push o, gg, dd, kk, oo⟩ → wpAny (model P w) A2 (pyIter v) Q E ⟨hp, gg, dd, kk, oo⟩ := fun q => B.iter P w _ _ ⟨hp, gg, dd, kk, oo⟩ _ hG q
    wp_walk using it1
    refine wpAny_stack_any fun _ => wpAny_pure ?_
    split
    · rename_i c _ _ _ _ _
      cases (c == Value.type "enumerate") <;> (wp_walk using it1; exact ⟨_, rfl, h⟩)
    · wp_walk using it1
      exact ⟨_, rfl, h⟩
theorem enum1_begins {P : Program} {w : World} {A : Around} {E : Value → Shared → Prop} {s : Shared} {v : Value} {o : Obj} {G : Heap → Prop} {Q : Value → Shared → Prop} (B : Begins v o G) (hG : G s.heap)
    (h : ∀ h2, IsEnum h2 (s.heap.objs.size + 1) s.heap.objs.size 0 .none → h2.get? s.heap.objs.size = some o → (∀ b u, s.heap.get? b = some u → h2.get? b = some u) → Q (.ref (s.heap.objs.size + 1)) { s with heap := h2 }) :
    wpAny (model P w) A (call (.type "enumerate") [v]) Q E s := by
  refine callType_new F.called_enumerate (by decide) (F.typeCall_enumerate_1 _) (F.newCall_enumerate_1 _) (fun ob => F.args_object_init_2 ob _) F.entry_enumerate_new (enum1_new B) ⟨hG, ?_⟩
  have z : (s.heap.push o).objs.size = s.heap.objs.size + 1 := Heap.size_push ..
  have e1 := Heap.get?_push_size (s.heap.push o) (o := { cls := .type "enumerate", data := .fields #[.none, .bool false, .ref s.heap.objs.size, rawInt 0, .none, .none] }) rfl
  show _ ∧ _
  rw [z] at e1 ⊢
  exact ⟨⟨_, e1, rfl⟩, h _ e1 (Heap.get?_push_of_some _ (Heap.get?_push_size _ B.free)) fun b u q => Heap.get?_push_of_some _ (Heap.get?_push_of_some _ q)⟩
/-- new pairs of a number and the i-th thing -/
def ItE (K : PySem.W.Frag) (t : Bool) (a : Addr) : It where
  go := fun i H => ∃ (xs : List V) (x : V), SqX K t H a xs ∧ xs[i]? = some x
  yld := fun i H v H' => ∃ T x, (v = .ref T ∧ H T = none) ∧ H' = upd H T (.tup [.int (i : Nat), x]) ∧ (∀ xs, SqX K t H a xs → xs[i]? = some x)
  stop := fun i H => ∃ xs : List V, SqX K t H a xs ∧ xs.length = i
theorem turn_e {P : Program} {w : World} {K : PySem.W.Frag} {elts : List Expr} {kk : Nat} {tp : Pos} {t : Bool} {a e it : Addr} (ne : e ≠ it) (na : e ≠ a) :
    Turn P w K (.Tuple elts kk tp) (ItE K t a) [e, it] e (fun i h => (∃ old, IsEnum h e it ((i : Nat) : Int) old) ∧ IterAt h it a i t) where
  mem := List.mem_cons_self ..
  obj := by
    intro i h st c hc
    obtain ⟨⟨old, e1⟩, q1⟩ := st
    simp only [List.mem_cons, List.not_mem_nil, or_false] at hc
    rcases hc with rfl | rfl
    · exact ⟨_, e1, fun v q => nomatch q⟩
    · exact q1.there
  keep := fun i h h' ⟨⟨old, e1⟩, q1⟩ k => ⟨⟨old, k _ (by simp) _ e1⟩, q1.moved (k _ (by simp))⟩
  item := by
    rintro X rfl rfl rfl hc i pins s σ H E I hf ⟨⟨old, e1⟩, q1⟩ ⟨xs, x, sx, gx⟩
    obtain ⟨us, ru, pu, _⟩ := src_of I sx
    have hh : X.A.in1.handled = none := I.ok.hd hc
    have na1 : a ≠ it := apart_x pu q1
    have D := draws_x (P := X.prog) (w := X.w) hh it a na1 us.toArray t
    have lx : i < us.toArray.size := by
      have := (List.getElem?_eq_some_iff.mp gx).1
      have := ru.length
      simp; omega
    refine wpAny_pyNext_enum_itemC D e1 ⟨q1, pu⟩ lx ne (by simp [ne, na]) fun u h' tk g eo st hT hsz hk => ?_
    refine ⟨_, rfl, wpAny_letOwnedTupleGo_enum (s := { s with heap := h', toks := tk + 1 }) eo fun h2 e2 sb => ?_⟩
    obtain ⟨o1, eo1, _⟩ := q1.there
    have l1 : e ≠ s.heap.objs.size := Nat.ne_of_lt (Heap.lt_size e1)
    have l2 : it ≠ s.heap.objs.size := Nat.ne_of_lt (Heap.lt_size eo1)
    have newT : h2.get? s.heap.objs.size = some { cls := .type "tuple", data := .seq #[.int ((i : Nat) : Int) tk, u] } := (sb.2 _ l1.symm).trans hT
    obtain ⟨v1, f1, r1⟩ := ru.get gx
    have s1 : v1 = u := Option.some.inj (f1.symm.trans (by simpa using g))
    rw [s1] at r1
    have I1 : Inv X pins σ (upd H s.heap.objs.size (.tup [.int (i : Nat), x])) { s with heap := h2, toks := tk + 1 } := by
      refine I.turnedNew (ch := [e, it]) (fun c o hc2 q => ?_) hf (Nat.le_refl _) ⟨by show 2 ≤ sizeLine; decide, [.int ((i : Nat) : Int) tk, u], .cons ⟨_, rfl⟩ (.cons r1 .nil), ⟨_, newT, rfl, _, rfl⟩⟩
      have m : ∀ d ∈ [e, it], c ≠ d := fun d hd z => hc2 (z ▸ hd)
      exact (sb.2 c (m e (by simp))).trans (hk c o (m e (by simp)) (m it (by simp)) q)
    refine ⟨.ref s.heap.objs.size, _, I1, rfl, ⟨_, x, ⟨rfl, I.hok.fresh (Nat.le_refl _)⟩, rfl, fun l hl => by rw [src_inj I hl sx]; exact gx⟩, ⟨⟨u, ?_⟩, st.1.moved fun o q => (sb.2 _ (Ne.symm ne)).trans q⟩, fun c hc2 => ?_⟩
    · have z : ((i + 1 : Nat) : Int) = (i : Int) + 1 := by omega
      rw [z]
      exact e2
    · have lc : c ≠ s.heap.objs.size := by
        simp only [List.mem_cons, List.not_mem_nil, or_false] at hc2
        rcases hc2 with rfl | rfl
        · exact l1
        · exact l2
      rw [upd_ne lc]
      exact (hf c hc2).1
  done := by
    rintro X rfl rfl rfl hc i pins s σ H E I hf ⟨⟨old, e1⟩, q1⟩ ⟨xs, sx, hend⟩
    obtain ⟨us, ru, pu, _⟩ := src_of I sx
    have hh : X.A.in1.handled = none := I.ok.hd hc
    have D := draws_x (P := X.prog) (w := X.w) hh it a (apart_x pu q1) us.toArray t
    have ei : i = us.toArray.size := by
      have := ru.length
      simp; omega
    refine wpAny_pyNext_enum_endD D e1 (by rw [← ei]; exact ⟨q1, pu⟩) fun h' hx => ⟨rfl, ?_⟩
    exact I.turnedL (t' := s.toks) (ch := [e, it]) (fun c o hc2 q => hx c o (fun z => hc2 (by simp [z])) q) hf
  self := fun A i s Q E st h => by
    obtain ⟨⟨_, e1⟩, _⟩ := st
    exact wpAny_pyIter_enum e1 h
def iEnumX (K : PySem.W.Frag) (t : Bool) (ta : TA) : TI := fun σ H R => ta σ H fun vs H1 => ∃ a xs, vs = [.ref a] ∧ SqX K t H1 a xs ∧ R (ItE K t a) H1
theorem pi_enumX (t : Bool) {X : Cx} {e : Expr} {ta : TA} {p pos tp : Pos} {elts : List Expr} {kk : Nat} (hg : Gl X "enumerate") (hm : X.mg "enumerate" = none) (ha : PA X [e] ta)
    (h1 : starEach [e] X.env = [(false, eval e X.env)] := by rfl) : PI X (.Tuple elts kk tp) (.Call (.Name "enumerate" p) [e] [] pos) (iEnumX X.K t ta) := by
  refine ⟨fun pins s σ H R I h => Call_ (ld_blt I hg hm boot_enumerate (PyProof.Rows.callWith_type1 (thn (ha.run pos pins s σ H _ I h) ?_) h1 rfl))⟩
  rintro us s1 ⟨vs, H1, I1, r1, a, xs, rfl, sx, q⟩
  obtain ⟨u1, rfl, q1⟩ := Vals.one r1
  cases q1
  obtain ⟨us, ru, pu, la⟩ := src_of I1 sx
  refine enum1_begins (begins_x a us.toArray t) pu fun h2 e1 f1 hk => wpAny_pyIter_enum e1 ?_
  refine ⟨s1.heap.objs.size + 1, [s1.heap.objs.size + 1, s1.heap.objs.size], _, _, H1, rfl, I1.kept (t' := s1.toks) hk, turn_e (Nat.succ_ne_self _) (Nat.ne_of_gt (Nat.lt_succ_of_lt la)), ⟨⟨_, e1⟩, .first f1⟩, fun c hc => ?_, q⟩
  have hle : s1.heap.objs.size ≤ c := by
    simp only [List.mem_cons, List.not_mem_nil, or_false] at hc
    rcases hc with q | q <;> rw [q] <;> first | exact Nat.le_add_right _ _ | exact Nat.le_refl _
  exact I1.fpOk hle (I1.hok.fresh hle)
theorem pi_enumT {X : Cx} {e : Expr} {ta : TA} {p pos tp : Pos} {elts : List Expr} {kk : Nat} (hg : Gl X "enumerate") (hm : X.mg "enumerate" = none) (ha : PA X [e] ta)
    (h1 : starEach [e] X.env = [(false, eval e X.env)] := by rfl) : PI X (.Tuple elts kk tp) (.Call (.Name "enumerate" p) [e] [] pos) (iEnumX X.K true ta) := pi_enumX true hg hm ha h1
theorem pi_enumL {X : Cx} {e : Expr} {ta : TA} {p pos tp : Pos} {elts : List Expr} {kk : Nat} (hg : Gl X "enumerate") (hm : X.mg "enumerate" = none) (ha : PA X [e] ta)
    (h1 : starEach [e] X.env = [(false, eval e X.env)] := by rfl) : PI X (.Tuple elts kk tp) (.Call (.Name "enumerate" p) [e] [] pos) (iEnumX X.K false ta) := pi_enumX false hg hm ha h1
theorem walk_e {K : PySem.W.Frag} {t : Bool} {a : Addr} {xs : List V} :
    Walk (ItE K t a) xs.length (fun H => SqX K t H a xs) (YPair (fun i => some (.int (i : Nat))) (fun i => xs[i]?)) where
  goes := fun i H hi q => ⟨xs, xs[i], q, by simp [hi]⟩
  stops := fun H q => ⟨xs, q, rfl⟩
  yields := fun i H v H' hi q y => by
    obtain ⟨T, x, ⟨h1, h2⟩, h3, h4⟩ := y
    exact ⟨T, .int (i : Nat), x, h1, h2, h3, rfl, h4 xs q⟩
/-! ### t * 1, t * n -/
theorem tup_mul1 (l : Addr) (us : Array Value) (n : Nat) (dd : Option Addr) (sl : Array (Option Value)) (u : Tok) :
    Meets (Builtin.«tuple.__mul__» ⟨[.ref l, .int 1 u], []⟩) (fun _ R s => s.heap.get? l = some { cls := .type "tuple", dict := dd, data := .seq us n, slots := sl } ∧ R (.ok (.ret (Value.ref l))) s) :=
  .of_wp fun P w A R s h => by
    obtain ⟨hp, gg, d0, kk, oo⟩ := s
    obtain ⟨hl, h⟩ := h
    have ix := AutoSeq1.idx_int
    wp_walk using AutoSeq1.wpAny_loadPart' hl
    repeat (first
      | (refine wpAny_ite_true (by simp) ?_; wp_walk using AutoSeq1.wpAny_loadPart' hl)
      | (refine wpAny_ite_false (by simp) ?_; wp_walk using AutoSeq1.wpAny_loadPart' hl))
    exact ⟨_, rfl, h⟩
def rRepA (K : PySem.W.Frag) : R2 := fun x y H Q => ∃ l k xs, x = .ref l ∧ y = .int k ∧ SqT K H l xs ∧ xs ≠ [] ∧ (1 ≤ k ∧ k ≤ 1000 ∧ xs.length ≤ 1000) ∧
  (k = 1 → Q (.ref l) H) ∧ (k ≠ 1 → ∀ p, H p = none → Q (.ref p) (upd H p (.tup (List.replicate k.toNat xs).flatten)))
theorem op_repA {X : Cx} : OpR X (binaryOp .Mult) (rRepA X.K) := by
  intro pins s σ H x y v u Q I rx ry h
  obtain ⟨l, k, xs, rfl, rfl, hT, hne, ⟨h1, h2, h3⟩, q1, q2⟩ := h
  by_cases e : k = 1
  · subst e
    cases rx
    obtain ⟨t, rfl⟩ := ry
    obtain ⟨us, r, ⟨⟨cls, dd, data, sl⟩, ho, hc, n, hd⟩, hs⟩ := I.tuple hT
    simp only at hc hd
    subst hc hd
    refine wpAny_binaryOp_repeat_ref (T := "tuple") (U := "int") (by decide) ⟨_, ho, rfl⟩ (fun s' => typeIs_int s' 1 t) noFill_tuple_mul F.fills_int_mul F.slot_int_rmul repeat_tuple F.slot_int_index.lookup ?_
    refine call_meets F.slot_int_rmul (typeIs_int s 1 t) F.entry_int_rmul (F.args_int_rmul_2 _ _) (int_rmul_tuple 1 t l us.toArray n dd sl) ⟨ho, rfl, ⟨_, ho, rfl⟩, ?_⟩
    exact call_meets F.slot_tuple_mul ⟨_, ho, rfl⟩ F.entry_tuple_mul (F.args_tuple_mul_2 _ _) (tup_mul1 l us.toArray n dd sl t) ⟨ho, ⟨.ref l, H, I, rfl, q1 rfl⟩⟩
  · exact op_repT pins s σ H _ _ v u Q I rx ry ⟨l, k, xs, rfl, rfl, hT, hne, by omega, h2, h3, q2 e⟩

/-! ### max of a tuple of ints, a tuple's index of an int -/
def rMaxT (K : PySem.W.Frag) : List V → Hp → VK → Prop := fun vs H Q => ∃ (a : Addr) (ns : List Int), vs = [V.ref a] ∧ SqT K H a (ns.map V.int) ∧ ns ≠ [] ∧ ∀ m, m ∈ ns → (∀ y, y ∈ ns → y ≤ m) → Q (.int m) H
theorem maxOf_is (x : Int) (xs : List Int) : PySem.W.maxOf x xs ∈ x :: xs ∧ ∀ y ∈ x :: xs, y ≤ PySem.W.maxOf x xs := by
  have gen : ∀ (l : List Int) (a : Int) (p : List Int), (a ∈ p ∧ ∀ y ∈ p, y ≤ a) → (l.foldl (fun a y => if PySem.W.DatumOrd.lt a y = true then y else a) a ∈ p ++ l ∧ ∀ y ∈ p ++ l, y ≤ l.foldl (fun a y => if PySem.W.DatumOrd.lt a y = true then y else a) a) := by
    intro l
    induction l with
    | nil => intro a p h; simpa using h
    | cons b r ih =>
      intro a p h
      have e : p ++ b :: r = (p ++ [b]) ++ r := by simp
      rw [e, List.foldl_cons]
      refine ih _ _ ?_
      by_cases q : PySem.W.DatumOrd.lt a b = true
      · have q2 : a < b := of_decide_eq_true (show decide (a < b) = true from q)
        rw [if_pos q]
        refine ⟨by simp, fun y hy => ?_⟩
        rcases List.mem_append.mp hy with z | z
        · have := h.2 y z; omega
        · have : y = b := by simpa using z
          omega
      · have q2 : ¬ a < b := fun z => q (show decide (a < b) = true from decide_eq_true z)
        rw [if_neg q]
        refine ⟨List.mem_append_left _ h.1, fun y hy => ?_⟩
        rcases List.mem_append.mp hy with z | z
        · exact h.2 y z
        · have : y = b := by simpa using z
          omega
  have h1 : ∀ y ∈ [x], y ≤ x := fun y hy => by
    have e : y = x := by simpa using hy
    omega
  have := gen xs x [x] ⟨by simp, h1⟩
  exact this
section
variable {X : Cx}
theorem hold_ints {h : Heap} : ∀ {ns : List Int} {us : List Value}, Vals (ns.map V.int) us → PySem.W.HoldAll h us ns := fun {ns us} r => by
  have q := Vals.ints r
  exact PySem.W.HoldAll.of_ints q
theorem cr_maxT (hc : X.calm = true) (hu : X.A.units + 64 < cLine) : CallR X (.builtin "max") (rMaxT X.K) := by
  intro pins s σ H vs us Q I r h
  obtain ⟨a, ns, rfl, hT, hne, q⟩ := h
  obtain ⟨u, rfl, r1⟩ := Vals.one r
  cases r1
  obtain ⟨us, ru, p, _⟩ := I.tuple hT
  cases ns with
  | nil => exact absurd rfl hne
  | cons n ns =>
    refine PySem.W.max_tuple_datum (α := Int) (I.ok.hd hc) p (hold_ints (h := s.heap) (by simpa using ru)) (by show X.A.units + 1 + 0 < cLine; omega) fun i v h' tk hi hv hk => ?_
    obtain ⟨m1, m2⟩ := maxOf_is n ns
    obtain ⟨as, rd⟩ := hv
    have rd2 : Reads h' v (.int (PySem.W.maxOf n ns)) as := rd
    cases rd2
    exact ⟨.int _, H, I.kept hk, ⟨_, rfl⟩, q _ m1 m2⟩
def rTupIx (K : PySem.W.Frag) : V → List V → Hp → VK → Prop := fun x vs H Q => ∃ (a : Addr) (ns : List Int) (k : Int), x = .ref a ∧ vs = [.int k] ∧ SqT K H a (ns.map V.int) ∧ k ∈ ns ∧ Q (.int (ns.idxOf k : Nat)) H
theorem mt_tupIx : MtR X "tuple.index" (rTupIx X.K) := by
  intro pins s σ H x vs v us Q I rx r h
  obtain ⟨a, ns, k, rfl, rfl, hT, hk, q⟩ := h
  cases rx
  obtain ⟨u, rfl, t, rfl⟩ := Vals.one r
  obtain ⟨us, ru, p, _⟩ := I.tuple hT
  exact PySem.SeqAt.tuple_index_ints p (Vals.ints ru) hk ⟨.int _, H, I.tok _, ⟨_, rfl⟩, q⟩
/-! ### tuple(xs): a tuple whose object is known -/
def kTup (K : PySem.W.Frag) : List V → Hp → VK → Prop := fun vs H Q => ∃ p ys, vs = [.ref p] ∧
  ((SqL K H p ys ∧ ∀ l o, H l = none → o.cls = .type "tuple" → o.dict = none → Q (.ref l) (upd H l (.frz o (.tup ys)))) ∨ (SqT K H p ys ∧ Q (.ref p) H))
theorem cr_tupleF : CallR X (.type "tuple") (kTup X.K) := by
  intro pins s σ H vs zs Q I r h
  obtain ⟨p, ys, rfl, h⟩ := h
  obtain ⟨z, rfl, r1⟩ := Vals.one r
  cases r1
  rcases h with ⟨hq, q⟩ | ⟨hq, q⟩
  · obtain ⟨us, ru, pl, hz⟩ := I.list hq
    have sz := ru.length
    refine call_tuple_list pl.isList (fun h2 keeps => ?_) (by simp only [List.size_toArray] <;> omega)
    have J : Inv X pins σ H { s with heap := h2 } := I.kept (t' := s.toks) keeps
    have J2 := J.laid (h' := h2.push { cls := .type "tuple", data := .seq us.toArray }) (a := h2.objs.size) (o := .frz { cls := .type "tuple", data := .seq us.toArray } (.tup ys)) (t' := s.toks)
      (fun _ _ e => Heap.get?_push_of_some _ e) (Nat.le_refl _) ⟨Heap.get?_push_size _ rfl, hz, us, ru, IsTup.new _ _⟩
    exact ⟨.ref h2.objs.size, _, J2, rfl, q _ _ (J.hok.fresh (Nat.le_refl _)) rfl rfl⟩
  · obtain ⟨us, ru, pl, hz⟩ := I.tuple hq
    exact call_tuple_same pl ⟨.ref p, H, I, rfl, q⟩
/-- t.index(k), for a tuple whose object is known -/
def tTix (K : PySem.W.Frag) (to : TE) (t : TA) : TE := fun σ H Q => to σ H fun x H1 => (∃ p o us, x = .ref p ∧ H1 p = some (.frz o (.tup us)) ∧ o.cls = .type "tuple" ∧ o.dict = none) ∧ t σ H1 fun vs H2 => rTupIx K x vs H2 Q
theorem pe_tix {nm : Str} {o e : Expr} {to : TE} {t : TA} {ap cp : Pos} (sl : Slot "tuple" nm "tuple.index") (ho : PE X o to) (ha : PA X [e] t)
    (h1 : attributeBase o nm X.env (eval o X.env) = eval o X.env)
    (h2 : ((backTo cp (starEach [e] X.env)).all (fun x => !x.1) && (backToKw cp (keywordEach [] X.env)).all (fun x => x.1.isSome) && decide ([e].length + ([] : List Keyword).length + (if ([] : List Keyword).isEmpty then 0 else 1) < 30)) = true)
    (h3 : (ap.endLine == cp.line) = true) (h4 : starEach [e] X.env = (false, eval e X.env) :: starEach [] X.env)
    (h5 : (backTo cp (starEach [] X.env)).any (·.1) = false) : PE X (.Call (.Attribute o nm ap) [e] [] cp) (tTix X.K to t) := by
  refine ⟨fun pins s σ H Q I h => ?_⟩
  refine wpAny_Call_method_late h1 h2 h3 rfl (thn (ho.run pins s σ H _ I h) fun v s1 ⟨x, H1, J, rx, ty, q⟩ => ?_)
  obtain ⟨p, ob, us, rfl, hp, hc, hd⟩ := ty
  cases rx
  obtain ⟨g1, _⟩ := J.hok p _ hp
  refine ⟨"tuple", "tuple.index", PySem.F.plainAttrs_tuple, sl, PySem.F.type_tuple_index, ⟨ob, g1, hc⟩, fun a e => ?_, ?_⟩
  · cases e
    exact ⟨ob, g1, hd⟩
  · have hA := ha.run cp pins s1 σ H1 _ J q
    rw [h4] at hA ⊢
    refine Calls.callWith_builtin (by show (false || (backTo cp (starEach [] X.env)).any (·.1)) = false; rw [h5] <;> rfl) (Calls.evalArgs_plain ?_)
    exact thn hA fun zs s2 ⟨vs, H2, J2, rv, q2⟩ => mt_tupIx pins s2 σ H2 (.ref p) vs (.ref p) zs Q J2 rfl rv q2
/-! ### repr of data without dicts -/
def rRepr (K : PySem.W.Frag) : List V → Hp → VK → Prop := fun vs H Q => ∃ (a : Addr) (d : PyData), vs = [V.ref a] ∧ Dp K H (.ref a) d ∧ d.showable = true ∧ d.hasDict = false ∧ d.depth ≤ 40 ∧ d.shown.length ≤ sizeLine ∧ Q (.str d.shown) H
theorem cr_repr (hg : X.A.guards = some []) (hu : X.A.units + 64 < cLine) : CallR X (.builtin "repr") (rRepr X.K) := by
  intro pins s σ H vs us Q I r h
  obtain ⟨a, d, rfl, hD, hs, hn, hd, hz, q⟩ := h
  obtain ⟨u, rfl, r1⟩ := Vals.one r
  cases r1
  obtain ⟨as, rd⟩ := Dp.reads I d _ _ hD (show RelV (.ref a) (Value.ref a) from rfl)
  exact repr_of_reads' rd hs (fun e => by rw [hn] at e; cases e) hg (by omega) (fun _ _ e => e) (fun h' u tk hk => ⟨.str _, H, I.kept hk, ⟨_, rfl⟩, q⟩) hz
end

/-! ### the rules with the written part named -/
section
variable (K : PySem.W.Frag) {X : Cx}
theorem ki_tup (e : X.K = K := by rfl) : IxR X (rIxT K) := e ▸ ix_tup
theorem ki_list (e : X.K = K := by rfl) : IxR X (rIxL K) := e ▸ ix_list
theorem ks_tup (e : X.K = K := by rfl) : SlR X (rSlA K) := e ▸ sl_tupA
theorem ks_list (e : X.K = K := by rfl) : SlR X (rSlL K) := e ▸ sl_list
theorem ko_cat (e : X.K = K := by rfl) : OpR X (binaryOp .Add) (rCatA K) := e ▸ op_catA
theorem ko_rep (e : X.K = K := by rfl) : OpR X (binaryOp .Mult) (rRepA K) := e ▸ op_repA
theorem ko_eqD (hu : X.A.units + 64 < cLine) (e : X.K = K := by rfl) : OpR X (compareOp .Eq) (rEqD K) := e ▸ op_eqD hu
theorem ko_neD (hu : X.A.units + 64 < cLine) (e : X.K = K := by rfl) : OpR X (compareOp .NotEq) (rNeD K) := e ▸ op_neD hu
theorem ko_notIn (e : X.K = K := by rfl) : OpR X (compareOp .NotIn) (rIn K true) := e ▸ op_notIn_seq
def kLen (K : PySem.W.Frag) : List V → Hp → VK → Prop := fun xs H Q => ∃ p ys, xs = [.ref p] ∧ (SqL K H p ys ∨ SqT K H p ys) ∧ Q (.int ys.length) H
theorem kc_len (e : X.K = K := by rfl) : CallR X (.builtin "len") (kLen K) := e ▸ call_len_seq
theorem kc_isi (e : X.K = K := by rfl) : CallR X (.builtin "isinstance") (rIsi K) := e ▸ call_isi
theorem kc_all (hc : X.calm = true) (e : X.K = K := by rfl) : CallR X (.builtin "all") (rAll K) := e ▸ cr_all hc
theorem kc_any (hc : X.calm = true) (e : X.K = K := by rfl) : CallR X (.builtin "any") (rAny K) := e ▸ cr_any hc
theorem kc_sum (hc : X.calm = true) (e : X.K = K := by rfl) : CallR X (.builtin "sum") (rSum K) := e ▸ cr_sum hc
theorem kc_max (hc : X.calm = true) (e : X.K = K := by rfl) : CallR X (.builtin "max") (rMax K) := e ▸ cr_max hc
theorem kc_maxT (hc : X.calm = true) (hu : X.A.units + 64 < cLine) (e : X.K = K := by rfl) : CallR X (.builtin "max") (rMaxT K) := e ▸ cr_maxT hc hu
theorem kc_sorted (e : X.K = K := by rfl) : CallR X (.builtin "sorted") (rSorted K) := e ▸ cr_sorted
theorem kc_tuple (e : X.K = K := by rfl) : CallR X (.type "tuple") (kTup K) := e ▸ cr_tupleF
theorem kc_repr (hg : X.A.guards = some []) (hu : X.A.units + 64 < cLine) (e : X.K = K := by rfl) : CallR X (.builtin "repr") (rRepr K) := e ▸ cr_repr hg hu
theorem km_index (e : X.K = K := by rfl) : MtR X "tuple.index" (rTupIx K) := e ▸ mt_tupIx
theorem kp_zip (t1 t2 : Bool) {e e2 : Expr} {ta : TA} {p pos tp : Pos} {elts : List Expr} {kk : Nat} (hg : Gl X "zip") (hm : X.mg "zip" = none) (ha : PA X [e, e2] ta) (eK : X.K = K := by rfl)
    (h1 : starEach [e, e2] X.env = (false, eval e X.env) :: starEach [e2] X.env := by rfl) (h2 : (backTo pos (starEach [e2] X.env)).any (·.1) = false := by rfl) :
    PI X (.Tuple elts kk tp) (.Call (.Name "zip" p) [e, e2] [] pos) (iZipX K t1 t2 ta) := eK ▸ pi_zipX t1 t2 hg hm ha h1 h2
theorem kp_enum (t : Bool) {e : Expr} {ta : TA} {p pos tp : Pos} {elts : List Expr} {kk : Nat} (hg : Gl X "enumerate") (hm : X.mg "enumerate" = none) (ha : PA X [e] ta) (eK : X.K = K := by rfl)
    (h1 : starEach [e] X.env = [(false, eval e X.env)] := by rfl) : PI X (.Tuple elts kk tp) (.Call (.Name "enumerate" p) [e] [] pos) (iEnumX K t ta) := eK ▸ pi_enumX t hg hm ha h1
theorem kg_tup {es : List Expr} {k : Nat} {t : TGs} {n : Nat} {pos : Pos} (hc : X.calm = true) (h : PGs X es t) (eK : X.K = K := by rfl)
    (hn : (assignEach es X.env).length = n := by rfl) (hst : (assignEach es X.env).findIdx? (·.1) = none := by rfl) : PG X (.Tuple es k pos) (gTup K n t) := eK ▸ pg_tup hc h hn hst
theorem ke_bm {T mid : String} {nm : Str} {o e : Expr} {es : List Expr} {to : TE} {t : TA} {r : V → List V → Hp → VK → Prop} {ap cp : Pos}
    (pa : PlainAttrs T) (sl : Slot T nm mid) (hty : typeOf (.builtin mid) = pure (.type "method_descriptor")) (hm : MtR X mid r) (ho : PE X o to) (ha : PA X (e :: es) t) (eK : X.K = K := by rfl)
    (h1 : attributeBase o nm X.env (eval o X.env) = eval o X.env := by rfl)
    (h2 : ((backTo cp (starEach (e :: es) X.env)).all (fun x => !x.1) && (backToKw cp (keywordEach [] X.env)).all (fun x => x.1.isSome) && decide ((e :: es).length + ([] : List Keyword).length + (if ([] : List Keyword).isEmpty then 0 else 1) < 30)) = true := by rfl)
    (h3 : (ap.endLine == cp.line) = true := by rfl) (h4 : starEach (e :: es) X.env = (false, eval e X.env) :: starEach es X.env := by rfl)
    (h5 : (backTo cp (starEach es X.env)).any (·.1) = false := by rfl) : PE X (.Call (.Attribute o nm ap) (e :: es) [] cp) (tBM K T r to t) := eK ▸ pe_bm pa sl hty hm ho ha h1 h2 h3 h4 h5
theorem ke_tix {o e : Expr} {to : TE} {t : TA} {ap cp : Pos} (ho : PE X o to) (ha : PA X [e] t) (eK : X.K = K := by rfl)
    (h1 : attributeBase o "index" X.env (eval o X.env) = eval o X.env := by rfl)
    (h2 : ((backTo cp (starEach [e] X.env)).all (fun x => !x.1) && (backToKw cp (keywordEach [] X.env)).all (fun x => x.1.isSome) && decide ([e].length + ([] : List Keyword).length + (if ([] : List Keyword).isEmpty then 0 else 1) < 30)) = true := by rfl)
    (h3 : (ap.endLine == cp.line) = true := by rfl) (h4 : starEach [e] X.env = (false, eval e X.env) :: starEach [] X.env := by rfl)
    (h5 : (backTo cp (starEach [] X.env)).any (·.1) = false := by rfl) : PE X (.Call (.Attribute o "index" ap) [e] [] cp) (tTix K to t) := eK ▸ pe_tix PySem.F.slot_tuple_index ho ha h1 h2 h3 h4 h5
end
end K66

/-! TxtK: the text by places (printed by gentxt.py, own program) -/
namespace K66
open PySem PySem.Spec PyProof.Rows L2
def topS (i : Nat) : Stmt := PySem.Challenge.pw_deedhouses_k66_whole_finer_sights_and_al.main.body.getD i (.Pass ⟨0, 0, 0, 0⟩)
abbrev s_is_whole : Stmt := topS 2
abbrev s_is_between : Stmt := topS 3
abbrev s_is_tuple_of : Stmt := topS 4
abbrev s_is_ratio : Stmt := topS 8
abbrev s_is_row : Stmt := topS 9
abbrev s_ratio : Stmt := topS 10
abbrev s_plus : Stmt := topS 11
abbrev s_times : Stmt := topS 12
abbrev s_is_less : Stmt := topS 13
abbrev s_total : Stmt := topS 14
abbrev s_dot : Stmt := topS 15
abbrev s_noughts : Stmt := topS 16
abbrev s_are_chances : Stmt := topS 21
abbrev s_is_deed : Stmt := topS 22
abbrev s_is_stand : Stmt := topS 23
abbrev s_is_share : Stmt := topS 24
abbrev s_is_house_by : Stmt := topS 25
abbrev s_check_house : Stmt := topS 34
abbrev s_check_start : Stmt := topS 35
abbrev s_check_weights : Stmt := topS 36
abbrev s_check_between : Stmt := topS 37
abbrev s_deed_worth : Stmt := topS 39
abbrev s_first_best : Stmt := topS 40
abbrev s_timed_by : Stmt := topS 41
abbrev s_marks_in : Stmt := topS 45
abbrev s_stands_of : Stmt := topS 46
abbrev s_deeds_of : Stmt := topS 47
abbrev s_are_marks : Stmt := topS 48
abbrev s_is_dim_by : Stmt := topS 49
abbrev s_hold_at : Stmt := topS 50
abbrev s_holds_by : Stmt := topS 51
abbrev s_behind_by : Stmt := topS 52
abbrev s_gains_from : Stmt := topS 53
abbrev s_some_tree : Stmt := topS 54
abbrev s_best_by : Stmt := topS 55
abbrev s_best_lookout_by : Stmt := topS 56
abbrev s_check_dim : Stmt := topS 58
abbrev s_check_steps : Stmt := topS 59
abbrev s_best_lookout : Stmt := topS 61
abbrev s_checked : Stmt := topS 64
abbrev s_timed_worths : Stmt := topS 65
abbrev s_law_pot : Stmt := topS 67
abbrev s_law_take : Stmt := topS 68
abbrev s_law_pick : Stmt := topS 69
abbrev s_law_shuffled : Stmt := topS 70
abbrev s_law_low : Stmt := topS 71
abbrev s_law_plus : Stmt := topS 72
abbrev s_law_times : Stmt := topS 73
abbrev s_law_below : Stmt := topS 74
abbrev s_law_total : Stmt := topS 75
abbrev s_law_dot : Stmt := topS 76
abbrev s_law_end : Stmt := topS 77
abbrev s_law_share : Stmt := topS 78
abbrev s_law_number : Stmt := topS 79
abbrev s_law_gains : Stmt := topS 80
abbrev s_law_weights : Stmt := topS 81
abbrev s_law_lot : Stmt := topS 82
abbrev s_law_odds : Stmt := topS 83
abbrev s_law_is_whole : Stmt := topS 84
abbrev s_law_is_fraction : Stmt := topS 85
abbrev s_law_chances : Stmt := topS 86
abbrev s_law_marks : Stmt := topS 87
abbrev s_law_dim : Stmt := topS 88
abbrev s_law_deeds : Stmt := topS 89
abbrev s_law_few : Stmt := topS 90
abbrev s_law_any_house : Stmt := topS 91
abbrev s_law_timed : Stmt := topS 92
abbrev s_law_number_told : Stmt := topS 93
abbrev s_law_other_sight : Stmt := topS 94
abbrev s_law_right : Stmt := topS 95
abbrev s_law : Stmt := topS 96
theorem sc_is_whole : FnScope ["value"] ["value"] (defScope s_is_whole) := ⟨rfl, rfl, rfl, by decide +kernel, rfl, by decide +kernel, by decide +kernel⟩
theorem sc_is_between : FnScope ["value", "low", "high"] ["value", "low", "high"] (defScope s_is_between) := ⟨rfl, rfl, rfl, by decide +kernel, rfl, by decide +kernel, by decide +kernel⟩
theorem sc_is_tuple_of : FnScope ["value", "many"] ["value", "many"] (defScope s_is_tuple_of) := ⟨rfl, rfl, rfl, by decide +kernel, rfl, by decide +kernel, by decide +kernel⟩
theorem sc_is_ratio : FnScope ["value"] ["value"] (defScope s_is_ratio) := ⟨rfl, rfl, rfl, by decide +kernel, rfl, by decide +kernel, by decide +kernel⟩
theorem sc_is_row : FnScope ["value", "many", "each"] ["value", "many"] (defScope s_is_row) := ⟨rfl, rfl, rfl, by decide +kernel, rfl, by decide +kernel, by decide +kernel⟩
theorem sc_ratio : FnScope ["top", "low", "part"] ["top", "low"] (defScope s_ratio) := ⟨rfl, rfl, rfl, by decide +kernel, rfl, by decide +kernel, by decide +kernel⟩
theorem sc_plus : FnScope ["one", "two"] ["one", "two"] (defScope s_plus) := ⟨rfl, rfl, rfl, by decide +kernel, rfl, by decide +kernel, by decide +kernel⟩
theorem sc_times : FnScope ["one", "two"] ["one", "two"] (defScope s_times) := ⟨rfl, rfl, rfl, by decide +kernel, rfl, by decide +kernel, by decide +kernel⟩
theorem sc_is_less : FnScope ["one", "two"] ["one", "two"] (defScope s_is_less) := ⟨rfl, rfl, rfl, by decide +kernel, rfl, by decide +kernel, by decide +kernel⟩
theorem sc_total : FnScope ["fractions", "found", "each"] ["fractions"] (defScope s_total) := ⟨rfl, rfl, rfl, by decide +kernel, rfl, by decide +kernel, by decide +kernel⟩
theorem sc_dot : FnScope ["one", "two", "here", "there"] ["one", "two"] (defScope s_dot) := ⟨rfl, rfl, rfl, by decide +kernel, rfl, by decide +kernel, by decide +kernel⟩
theorem sc_noughts : FnScope ["many"] ["many"] (defScope s_noughts) := ⟨rfl, rfl, rfl, by decide +kernel, rfl, by decide +kernel, by decide +kernel⟩
theorem sc_are_chances : FnScope ["value", "stands", "goals", "stand", "_", "chance", "one", "two", "each"] ["value", "stands"] (defScope s_are_chances) := ⟨rfl, rfl, rfl, by decide +kernel, rfl, by decide +kernel, by decide +kernel⟩
theorem sc_is_deed : FnScope ["value", "pays", "stands"] ["value", "pays", "stands"] (defScope s_is_deed) := ⟨rfl, rfl, rfl, by decide +kernel, rfl, by decide +kernel, by decide +kernel⟩
theorem sc_is_stand : FnScope ["value", "pays", "stands", "each"] ["value", "pays", "stands"] (defScope s_is_stand) := ⟨rfl, rfl, rfl, by decide +kernel, rfl, by decide +kernel, by decide +kernel⟩
theorem sc_is_share : FnScope ["value"] ["value"] (defScope s_is_share) := ⟨rfl, rfl, rfl, by decide +kernel, rfl, by decide +kernel, by decide +kernel⟩
theorem sc_is_house_by : FnScope ["value", "stands", "each"] ["value"] (defScope s_is_house_by) := ⟨rfl, rfl, rfl, by decide +kernel, rfl, by decide +kernel, by decide +kernel⟩
theorem sc_check_house : FnScope ["value"] ["value"] (defScope s_check_house) := ⟨rfl, rfl, rfl, by decide +kernel, rfl, by decide +kernel, by decide +kernel⟩
theorem sc_check_start : FnScope ["house", "value", "index", "each"] ["house", "value"] (defScope s_check_start) := ⟨rfl, rfl, rfl, by decide +kernel, rfl, by decide +kernel, by decide +kernel⟩
theorem sc_check_weights : FnScope ["house", "value", "index", "each"] ["house", "value"] (defScope s_check_weights) := ⟨rfl, rfl, rfl, by decide +kernel, rfl, by decide +kernel, by decide +kernel⟩
theorem sc_check_between : FnScope ["value", "low", "high"] ["value", "low", "high"] (defScope s_check_between) := ⟨rfl, rfl, rfl, by decide +kernel, rfl, by decide +kernel, by decide +kernel⟩
theorem sc_deed_worth : FnScope ["house", "weights", "worths", "deed", "chances", "gains", "ahead", "goal", "chance"] ["house", "weights", "worths", "deed"] (defScope s_deed_worth) := ⟨rfl, rfl, rfl, by decide +kernel, rfl, by decide +kernel, by decide +kernel⟩
theorem sc_first_best : FnScope ["row", "best", "at", "each"] ["row"] (defScope s_first_best) := ⟨rfl, rfl, rfl, by decide +kernel, rfl, by decide +kernel, by decide +kernel⟩
theorem sc_timed_by : FnScope ["house", "weights", "many", "worths", "choices", "_", "rows", "deeds", "deed", "row", "at"] ["house", "weights", "many"] (defScope s_timed_by) := ⟨rfl, rfl, rfl, by decide +kernel, rfl, by decide +kernel, by decide +kernel⟩
theorem sc_marks_in : FnScope ["dim"] ["dim"] (defScope s_marks_in) := ⟨rfl, rfl, rfl, by decide +kernel, rfl, by decide +kernel, by decide +kernel⟩
theorem sc_stands_of : FnScope ["dim", "mark", "stand", "each"] ["dim", "mark"] (defScope s_stands_of) := ⟨rfl, rfl, rfl, by decide +kernel, rfl, by decide +kernel, by decide +kernel⟩
theorem sc_deeds_of : FnScope ["dim", "mark"] ["dim", "mark"] (defScope s_deeds_of) := ⟨rfl, rfl, rfl, by decide +kernel, rfl, by decide +kernel, by decide +kernel⟩
theorem sc_are_marks : FnScope ["house", "value", "firsts", "each", "deeds", "first"] ["house", "value"] (defScope s_are_marks) := ⟨rfl, rfl, rfl, by decide +kernel, rfl, by decide +kernel, by decide +kernel⟩
theorem sc_is_dim_by : FnScope ["value"] ["value"] (defScope s_is_dim_by) := ⟨rfl, rfl, rfl, by decide +kernel, rfl, by decide +kernel, by decide +kernel⟩
theorem sc_hold_at : FnScope ["dim", "mark", "numbers", "there", "each"] ["dim", "mark", "numbers"] (defScope s_hold_at) := ⟨rfl, rfl, rfl, by decide +kernel, rfl, by decide +kernel, by decide +kernel⟩
theorem sc_holds_by : FnScope ["dim", "numbers", "mark"] ["dim", "numbers"] (defScope s_holds_by) := ⟨rfl, rfl, rfl, by decide +kernel, rfl, by decide +kernel, by decide +kernel⟩
theorem sc_behind_by : FnScope ["dim", "mark", "hold", "deed", "found", "stand", "goal", "chance", "more"] ["dim", "mark", "hold", "deed"] (defScope s_behind_by) := ⟨rfl, rfl, rfl, by decide +kernel, rfl, by decide +kernel, by decide +kernel⟩
theorem sc_gains_from : FnScope ["dim", "weights", "mark", "hold", "deed", "house", "stand"] ["dim", "weights", "mark", "hold", "deed"] (defScope s_gains_from) := ⟨rfl, rfl, rfl, by decide +kernel, rfl, by decide +kernel, by decide +kernel⟩
theorem sc_some_tree : FnScope ["dim", "many"] ["dim", "many"] (defScope s_some_tree) := ⟨rfl, rfl, rfl, by decide +kernel, rfl, by decide +kernel, by decide +kernel⟩
theorem sc_best_by : FnScope ["dim", "weights", "mark", "many", "hold", "worths", "trees", "deed", "ahead", "later", "at", "there", "each", "number", "_", "tree"] ["dim", "weights", "mark", "many", "hold"] (defScope s_best_by) := ⟨rfl, rfl, rfl, by decide +kernel, rfl, by decide +kernel, by decide +kernel⟩
theorem sc_best_lookout_by : FnScope ["dim", "start", "weights", "many", "found", "mark", "hold", "number", "_", "tree"] ["dim", "start", "weights", "many"] (defScope s_best_lookout_by) := ⟨rfl, rfl, rfl, by decide +kernel, rfl, by decide +kernel, by decide +kernel⟩
theorem sc_check_dim : FnScope ["value"] ["value"] (defScope s_check_dim) := ⟨rfl, rfl, rfl, by decide +kernel, rfl, by decide +kernel, by decide +kernel⟩
theorem sc_check_steps : FnScope ["value"] ["value"] (defScope s_check_steps) := ⟨rfl, rfl, rfl, by decide +kernel, rfl, by decide +kernel, by decide +kernel⟩
theorem sc_best_lookout : FnScope ["dim", "start", "weights", "many"] ["dim", "start", "weights", "many"] (defScope s_best_lookout) := ⟨rfl, rfl, rfl, by decide +kernel, rfl, by decide +kernel, by decide +kernel⟩
theorem sc_checked : FnScope ["house", "weights", "many"] ["house", "weights", "many"] (defScope s_checked) := ⟨rfl, rfl, rfl, by decide +kernel, rfl, by decide +kernel, by decide +kernel⟩
theorem sc_timed_worths : FnScope ["house", "weights", "many"] ["house", "weights", "many"] (defScope s_timed_worths) := ⟨rfl, rfl, rfl, by decide +kernel, rfl, by decide +kernel, by decide +kernel⟩
theorem sc_law_pot : FnScope ["_law_script", "_law_spot", "_law_seed", "_law_cell", "_law_own"] ["_law_script", "_law_spot"] (defScope s_law_pot) := ⟨rfl, rfl, rfl, by decide +kernel, rfl, by decide +kernel, by decide +kernel⟩
theorem sc_law_take : FnScope ["_law_pot_here", "_law_many", "_law_digit", "_law_seed"] ["_law_pot_here", "_law_many"] (defScope s_law_take) := ⟨rfl, rfl, rfl, by decide +kernel, rfl, by decide +kernel, by decide +kernel⟩
theorem sc_law_pick : FnScope ["_law_pot_here", "_law_some"] ["_law_pot_here", "_law_some"] (defScope s_law_pick) := ⟨rfl, rfl, rfl, by decide +kernel, rfl, by decide +kernel, by decide +kernel⟩
theorem sc_law_shuffled : FnScope ["_law_pot_here", "_law_many", "_law_left", "_law_found", "_law_turn"] ["_law_pot_here", "_law_many"] (defScope s_law_shuffled) := ⟨rfl, rfl, rfl, by decide +kernel, rfl, by decide +kernel, by decide +kernel⟩
theorem sc_law_low : FnScope ["_law_top", "_law_low_here", "_law_one", "_law_two"] ["_law_top", "_law_low_here"] (defScope s_law_low) := ⟨rfl, rfl, rfl, by decide +kernel, rfl, by decide +kernel, by decide +kernel⟩
theorem sc_law_plus : FnScope ["_law_one", "_law_two"] ["_law_one", "_law_two"] (defScope s_law_plus) := ⟨rfl, rfl, rfl, by decide +kernel, rfl, by decide +kernel, by decide +kernel⟩
theorem sc_law_times : FnScope ["_law_one", "_law_two"] ["_law_one", "_law_two"] (defScope s_law_times) := ⟨rfl, rfl, rfl, by decide +kernel, rfl, by decide +kernel, by decide +kernel⟩
theorem sc_law_below : FnScope ["_law_one", "_law_two"] ["_law_one", "_law_two"] (defScope s_law_below) := ⟨rfl, rfl, rfl, by decide +kernel, rfl, by decide +kernel, by decide +kernel⟩
theorem sc_law_total : FnScope ["_law_some", "_law_found", "_law_each"] ["_law_some"] (defScope s_law_total) := ⟨rfl, rfl, rfl, by decide +kernel, rfl, by decide +kernel, by decide +kernel⟩
theorem sc_law_dot : FnScope ["_law_one", "_law_two", "_law_found", "_law_x", "_law_y"] ["_law_one", "_law_two"] (defScope s_law_dot) := ⟨rfl, rfl, rfl, by decide +kernel, rfl, by decide +kernel, by decide +kernel⟩
theorem sc_law_end : FnScope ["_law_some", "_law_is_greatest", "_law_found", "_law_each", "_law_lesser", "_law_greater"] ["_law_some", "_law_is_greatest"] (defScope s_law_end) := ⟨rfl, rfl, rfl, by decide +kernel, rfl, by decide +kernel, by decide +kernel⟩
theorem sc_law_share : FnScope ["_law_pot_here", "_law_top"] ["_law_pot_here"] (defScope s_law_share) := ⟨rfl, rfl, rfl, by decide +kernel, rfl, by decide +kernel, by decide +kernel⟩
theorem sc_law_number : FnScope ["_law_pot_here", "_law_way"] ["_law_pot_here"] (defScope s_law_number) := ⟨rfl, rfl, rfl, by decide +kernel, rfl, by decide +kernel, by decide +kernel⟩
theorem sc_law_gains : FnScope ["_law_pot_here", "_law_pays", "_law_found", "_law_turn"] ["_law_pot_here", "_law_pays"] (defScope s_law_gains) := ⟨rfl, rfl, rfl, by decide +kernel, rfl, by decide +kernel, by decide +kernel⟩
theorem sc_law_weights : FnScope ["_law_pot_here", "_law_pays", "_law_found", "_law_each"] ["_law_pot_here", "_law_pays"] (defScope s_law_weights) := ⟨rfl, rfl, rfl, by decide +kernel, rfl, by decide +kernel, by decide +kernel⟩
theorem sc_law_lot : FnScope ["_law_pot_here", "_law_many", "_law_found", "_law_turn"] ["_law_pot_here", "_law_many"] (defScope s_law_lot) := ⟨rfl, rfl, rfl, by decide +kernel, rfl, by decide +kernel, by decide +kernel⟩
theorem sc_law_odds : FnScope ["_law_pot_here", "_law_many", "_law_pick_here", "_law_some", "_law_total_here", "_law_each", "_law_at"] ["_law_pot_here", "_law_many"] (defScope s_law_odds) := ⟨rfl, rfl, rfl, by decide +kernel, rfl, by decide +kernel, by decide +kernel⟩
theorem sc_law_is_whole : FnScope ["_law_value"] ["_law_value"] (defScope s_law_is_whole) := ⟨rfl, rfl, rfl, by decide +kernel, rfl, by decide +kernel, by decide +kernel⟩
theorem sc_law_is_fraction : FnScope ["_law_value"] ["_law_value"] (defScope s_law_is_fraction) := ⟨rfl, rfl, rfl, by decide +kernel, rfl, by decide +kernel, by decide +kernel⟩
theorem sc_law_chances : FnScope ["_law_pot_here", "_law_many", "_law_most", "_law_limit", "_law_told", "_law_some", "_law_total_here", "_law_stand", "_law_part"] ["_law_pot_here", "_law_many", "_law_most"] (defScope s_law_chances) := ⟨rfl, rfl, rfl, by decide +kernel, rfl, by decide +kernel, by decide +kernel⟩
theorem sc_law_marks : FnScope ["_law_pot_here", "_law_many", "_law_most", "_law_found", "_law_stand", "_law_places", "_law_mark"] ["_law_pot_here", "_law_many"] (defScope s_law_marks) := ⟨rfl, rfl, rfl, by decide +kernel, rfl, by decide +kernel, by decide +kernel⟩
theorem sc_law_dim : FnScope ["_law_pot_here", "_law_sizes", "_law_some", "_law_many", "_law_pays", "_law_share_here", "_law_marks_here", "_law_deeds_here", "_law_stands", "_law_mark", "_law_found", "_law_deed", "_law_chances_here"] ["_law_pot_here", "_law_sizes", "_law_some"] (defScope s_law_dim) := ⟨rfl, rfl, rfl, by decide +kernel, rfl, by decide +kernel, by decide +kernel⟩
theorem sc_law_deeds : FnScope ["_law_dim_here", "_law_mark"] ["_law_dim_here"] (defScope s_law_deeds) := ⟨rfl, rfl, rfl, by decide +kernel, rfl, by decide +kernel, by decide +kernel⟩
theorem sc_law_few : FnScope ["_law_pot_here", "_law_deeds_here", "_law_cap", "_law_many", "_law_count", "_law_turn"] ["_law_pot_here", "_law_deeds_here", "_law_cap"] (defScope s_law_few) := ⟨rfl, rfl, rfl, by decide +kernel, rfl, by decide +kernel, by decide +kernel⟩
theorem sc_law_any_house : FnScope ["_law_pot_here", "_law_sizes", "_law_many", "_law_pays", "_law_share_here", "_law_stands", "_law_stand", "_law_deeds_here", "_law_deed", "_law_chances_here"] ["_law_pot_here", "_law_sizes"] (defScope s_law_any_house) := ⟨rfl, rfl, rfl, by decide +kernel, rfl, by decide +kernel, by decide +kernel⟩
theorem sc_law_timed : FnScope ["_law_house", "_law_weights_here", "_law_many", "_law_found", "_law_turn", "_law_row", "_law_last", "_law_deeds_here", "_law_some", "_law_chances_here", "_law_gains_here", "_law_ahead", "_law_each"] ["_law_house", "_law_weights_here", "_law_many"] (defScope s_law_timed) := ⟨rfl, rfl, rfl, by decide +kernel, rfl, by decide +kernel, by decide +kernel⟩
theorem sc_law_number_told : FnScope ["_law_dim_here", "_law_start", "_law_weights_here", "_law_many", "_law_told"] ["_law_dim_here", "_law_start", "_law_weights_here", "_law_many"] (defScope s_law_number_told) := ⟨rfl, rfl, rfl, by decide +kernel, rfl, by decide +kernel, by decide +kernel⟩
theorem sc_law_other_sight : FnScope ["_law_pot_here", "_law_marks_here", "_law_some", "_law_taken", "_law_mark"] ["_law_pot_here", "_law_marks_here"] (defScope s_law_other_sight) := ⟨rfl, rfl, rfl, by decide +kernel, rfl, by decide +kernel, by decide +kernel⟩
theorem sc_law_right : FnScope ["_law_pot_here", "_law_dim_here", "_law_house", "_law_weights_here", "_law_start", "_law_many", "_law_coarse", "_law_most", "_law_fine", "_law_told", "_law_marks_here", "_law_due"] ["_law_pot_here"] (defScope s_law_right) := ⟨rfl, rfl, rfl, by decide +kernel, rfl, by decide +kernel, by decide +kernel⟩
theorem sc_law : FnScope ["_law_script", "_law_turn"] ["_law_script"] (defScope s_law) := ⟨rfl, rfl, rfl, by decide +kernel, rfl, by decide +kernel, by decide +kernel⟩
def d_is_whole : He.DefD := ⟨("is_whole", none), "is_whole", "is_whole", defArgs s_is_whole, defBody s_is_whole, defScope s_is_whole, [], []⟩
def d_is_between : He.DefD := ⟨("is_between", none), "is_between", "is_between", defArgs s_is_between, defBody s_is_between, defScope s_is_between, [], []⟩
def d_is_tuple_of : He.DefD := ⟨("is_tuple_of", none), "is_tuple_of", "is_tuple_of", defArgs s_is_tuple_of, defBody s_is_tuple_of, defScope s_is_tuple_of, [], []⟩
def d_is_ratio : He.DefD := ⟨("is_ratio", none), "is_ratio", "is_ratio", defArgs s_is_ratio, defBody s_is_ratio, defScope s_is_ratio, [], []⟩
def d_is_row : He.DefD := ⟨("is_row", none), "is_row", "is_row", defArgs s_is_row, defBody s_is_row, defScope s_is_row, [], []⟩
def d_ratio : He.DefD := ⟨("ratio", none), "ratio", "ratio", defArgs s_ratio, defBody s_ratio, defScope s_ratio, [], []⟩
def d_plus : He.DefD := ⟨("plus", none), "plus", "plus", defArgs s_plus, defBody s_plus, defScope s_plus, [], []⟩
def d_times : He.DefD := ⟨("times", none), "times", "times", defArgs s_times, defBody s_times, defScope s_times, [], []⟩
def d_is_less : He.DefD := ⟨("is_less", none), "is_less", "is_less", defArgs s_is_less, defBody s_is_less, defScope s_is_less, [], []⟩
def d_total : He.DefD := ⟨("total", none), "total", "total", defArgs s_total, defBody s_total, defScope s_total, [], []⟩
def d_dot : He.DefD := ⟨("dot", none), "dot", "dot", defArgs s_dot, defBody s_dot, defScope s_dot, [], []⟩
def d_noughts : He.DefD := ⟨("noughts", none), "noughts", "noughts", defArgs s_noughts, defBody s_noughts, defScope s_noughts, [], []⟩
def d_are_chances : He.DefD := ⟨("are_chances", none), "are_chances", "are_chances", defArgs s_are_chances, defBody s_are_chances, defScope s_are_chances, [], []⟩
def d_is_deed : He.DefD := ⟨("is_deed", none), "is_deed", "is_deed", defArgs s_is_deed, defBody s_is_deed, defScope s_is_deed, [], []⟩
def d_is_stand : He.DefD := ⟨("is_stand", none), "is_stand", "is_stand", defArgs s_is_stand, defBody s_is_stand, defScope s_is_stand, [], []⟩
def d_is_share : He.DefD := ⟨("is_share", none), "is_share", "is_share", defArgs s_is_share, defBody s_is_share, defScope s_is_share, [], []⟩
def d_is_house_by : He.DefD := ⟨("is_house_by", none), "is_house_by", "is_house_by", defArgs s_is_house_by, defBody s_is_house_by, defScope s_is_house_by, [], []⟩
def d_check_house : He.DefD := ⟨("check_house", none), "check_house", "check_house", defArgs s_check_house, defBody s_check_house, defScope s_check_house, [], []⟩
def d_check_start : He.DefD := ⟨("check_start", none), "check_start", "check_start", defArgs s_check_start, defBody s_check_start, defScope s_check_start, [], []⟩
def d_check_weights : He.DefD := ⟨("check_weights", none), "check_weights", "check_weights", defArgs s_check_weights, defBody s_check_weights, defScope s_check_weights, [], []⟩
def d_check_between : He.DefD := ⟨("check_between", none), "check_between", "check_between", defArgs s_check_between, defBody s_check_between, defScope s_check_between, [], []⟩
def d_deed_worth : He.DefD := ⟨("deed_worth", none), "deed_worth", "deed_worth", defArgs s_deed_worth, defBody s_deed_worth, defScope s_deed_worth, [], []⟩
def d_first_best : He.DefD := ⟨("first_best", none), "first_best", "first_best", defArgs s_first_best, defBody s_first_best, defScope s_first_best, [], []⟩
def d_timed_by : He.DefD := ⟨("timed_by", none), "timed_by", "timed_by", defArgs s_timed_by, defBody s_timed_by, defScope s_timed_by, [], []⟩
def d_marks_in : He.DefD := ⟨("marks_in", none), "marks_in", "marks_in", defArgs s_marks_in, defBody s_marks_in, defScope s_marks_in, [], []⟩
def d_stands_of : He.DefD := ⟨("stands_of", none), "stands_of", "stands_of", defArgs s_stands_of, defBody s_stands_of, defScope s_stands_of, [], []⟩
def d_deeds_of : He.DefD := ⟨("deeds_of", none), "deeds_of", "deeds_of", defArgs s_deeds_of, defBody s_deeds_of, defScope s_deeds_of, [], []⟩
def d_are_marks : He.DefD := ⟨("are_marks", none), "are_marks", "are_marks", defArgs s_are_marks, defBody s_are_marks, defScope s_are_marks, [], []⟩
def d_is_dim_by : He.DefD := ⟨("is_dim_by", none), "is_dim_by", "is_dim_by", defArgs s_is_dim_by, defBody s_is_dim_by, defScope s_is_dim_by, [], []⟩
def d_hold_at : He.DefD := ⟨("hold_at", none), "hold_at", "hold_at", defArgs s_hold_at, defBody s_hold_at, defScope s_hold_at, [], []⟩
def d_holds_by : He.DefD := ⟨("holds_by", none), "holds_by", "holds_by", defArgs s_holds_by, defBody s_holds_by, defScope s_holds_by, [], []⟩
def d_behind_by : He.DefD := ⟨("behind_by", none), "behind_by", "behind_by", defArgs s_behind_by, defBody s_behind_by, defScope s_behind_by, [], []⟩
def d_gains_from : He.DefD := ⟨("gains_from", none), "gains_from", "gains_from", defArgs s_gains_from, defBody s_gains_from, defScope s_gains_from, [], []⟩
def d_some_tree : He.DefD := ⟨("some_tree", none), "some_tree", "some_tree", defArgs s_some_tree, defBody s_some_tree, defScope s_some_tree, [], []⟩
def d_best_by : He.DefD := ⟨("best_by", none), "best_by", "best_by", defArgs s_best_by, defBody s_best_by, defScope s_best_by, [], []⟩
def d_best_lookout_by : He.DefD := ⟨("best_lookout_by", none), "best_lookout_by", "best_lookout_by", defArgs s_best_lookout_by, defBody s_best_lookout_by, defScope s_best_lookout_by, [], []⟩
def d_check_dim : He.DefD := ⟨("check_dim", none), "check_dim", "check_dim", defArgs s_check_dim, defBody s_check_dim, defScope s_check_dim, [], []⟩
def d_check_steps : He.DefD := ⟨("check_steps", none), "check_steps", "check_steps", defArgs s_check_steps, defBody s_check_steps, defScope s_check_steps, [], []⟩
def d_best_lookout : He.DefD := ⟨("best_lookout", none), "best_lookout", "best_lookout", defArgs s_best_lookout, defBody s_best_lookout, defScope s_best_lookout, [], []⟩
def d_checked : He.DefD := ⟨("checked", none), "checked", "checked", defArgs s_checked, defBody s_checked, defScope s_checked, [], []⟩
def d_timed_worths : He.DefD := ⟨("timed_worths", none), "timed_worths", "timed_worths", defArgs s_timed_worths, defBody s_timed_worths, defScope s_timed_worths, [], []⟩
def d_law_pot : He.DefD := ⟨("_law_pot", none), "_law_pot", "_law_pot", defArgs s_law_pot, defBody s_law_pot, defScope s_law_pot, [], []⟩
def d_law_take : He.DefD := ⟨("_law_take", none), "_law_take", "_law_take", defArgs s_law_take, defBody s_law_take, defScope s_law_take, [], []⟩
def d_law_pick : He.DefD := ⟨("_law_pick", none), "_law_pick", "_law_pick", defArgs s_law_pick, defBody s_law_pick, defScope s_law_pick, [], []⟩
def d_law_shuffled : He.DefD := ⟨("_law_shuffled", none), "_law_shuffled", "_law_shuffled", defArgs s_law_shuffled, defBody s_law_shuffled, defScope s_law_shuffled, [], []⟩
def d_law_low : He.DefD := ⟨("_law_low", none), "_law_low", "_law_low", defArgs s_law_low, defBody s_law_low, defScope s_law_low, [], []⟩
def d_law_plus : He.DefD := ⟨("_law_plus", none), "_law_plus", "_law_plus", defArgs s_law_plus, defBody s_law_plus, defScope s_law_plus, [], []⟩
def d_law_times : He.DefD := ⟨("_law_times", none), "_law_times", "_law_times", defArgs s_law_times, defBody s_law_times, defScope s_law_times, [], []⟩
def d_law_below : He.DefD := ⟨("_law_below", none), "_law_below", "_law_below", defArgs s_law_below, defBody s_law_below, defScope s_law_below, [], []⟩
def d_law_total : He.DefD := ⟨("_law_total", none), "_law_total", "_law_total", defArgs s_law_total, defBody s_law_total, defScope s_law_total, [], []⟩
def d_law_dot : He.DefD := ⟨("_law_dot", none), "_law_dot", "_law_dot", defArgs s_law_dot, defBody s_law_dot, defScope s_law_dot, [], []⟩
def d_law_end : He.DefD := ⟨("_law_end", none), "_law_end", "_law_end", defArgs s_law_end, defBody s_law_end, defScope s_law_end, [], []⟩
def d_law_share : He.DefD := ⟨("_law_share", none), "_law_share", "_law_share", defArgs s_law_share, defBody s_law_share, defScope s_law_share, [], []⟩
def d_law_number : He.DefD := ⟨("_law_number", none), "_law_number", "_law_number", defArgs s_law_number, defBody s_law_number, defScope s_law_number, [], []⟩
def d_law_gains : He.DefD := ⟨("_law_gains", none), "_law_gains", "_law_gains", defArgs s_law_gains, defBody s_law_gains, defScope s_law_gains, [], []⟩
def d_law_weights : He.DefD := ⟨("_law_weights", none), "_law_weights", "_law_weights", defArgs s_law_weights, defBody s_law_weights, defScope s_law_weights, [], []⟩
def d_law_lot : He.DefD := ⟨("_law_lot", none), "_law_lot", "_law_lot", defArgs s_law_lot, defBody s_law_lot, defScope s_law_lot, [], []⟩
def d_law_odds : He.DefD := ⟨("_law_odds", none), "_law_odds", "_law_odds", defArgs s_law_odds, defBody s_law_odds, defScope s_law_odds, [], []⟩
def d_law_is_whole : He.DefD := ⟨("_law_is_whole", none), "_law_is_whole", "_law_is_whole", defArgs s_law_is_whole, defBody s_law_is_whole, defScope s_law_is_whole, [], []⟩
def d_law_is_fraction : He.DefD := ⟨("_law_is_fraction", none), "_law_is_fraction", "_law_is_fraction", defArgs s_law_is_fraction, defBody s_law_is_fraction, defScope s_law_is_fraction, [], []⟩
def d_law_chances : He.DefD := ⟨("_law_chances", none), "_law_chances", "_law_chances", defArgs s_law_chances, defBody s_law_chances, defScope s_law_chances, [], []⟩
def d_law_marks : He.DefD := ⟨("_law_marks", none), "_law_marks", "_law_marks", defArgs s_law_marks, defBody s_law_marks, defScope s_law_marks, [], []⟩
def d_law_dim : He.DefD := ⟨("_law_dim", none), "_law_dim", "_law_dim", defArgs s_law_dim, defBody s_law_dim, defScope s_law_dim, [], []⟩
def d_law_deeds : He.DefD := ⟨("_law_deeds", none), "_law_deeds", "_law_deeds", defArgs s_law_deeds, defBody s_law_deeds, defScope s_law_deeds, [], []⟩
def d_law_few : He.DefD := ⟨("_law_few", none), "_law_few", "_law_few", defArgs s_law_few, defBody s_law_few, defScope s_law_few, [], []⟩
def d_law_any_house : He.DefD := ⟨("_law_any_house", none), "_law_any_house", "_law_any_house", defArgs s_law_any_house, defBody s_law_any_house, defScope s_law_any_house, [], []⟩
def d_law_timed : He.DefD := ⟨("_law_timed", none), "_law_timed", "_law_timed", defArgs s_law_timed, defBody s_law_timed, defScope s_law_timed, [], []⟩
def d_law_number_told : He.DefD := ⟨("_law_number_told", none), "_law_number_told", "_law_number_told", defArgs s_law_number_told, defBody s_law_number_told, defScope s_law_number_told, [], []⟩
def d_law_other_sight : He.DefD := ⟨("_law_other_sight", none), "_law_other_sight", "_law_other_sight", defArgs s_law_other_sight, defBody s_law_other_sight, defScope s_law_other_sight, [], []⟩
def d_law_right : He.DefD := ⟨("_law_right", none), "_law_right", "_law_right", defArgs s_law_right, defBody s_law_right, defScope s_law_right, [], []⟩
def d_law : He.DefD := ⟨("law", none), "law", "law", defArgs s_law, defBody s_law, defScope s_law, [], []⟩
def fnL : List He.DefD := [d_is_whole, d_is_between, d_is_tuple_of, d_is_ratio, d_is_row, d_ratio, d_plus, d_times, d_is_less, d_total, d_dot, d_noughts, d_are_chances, d_is_deed, d_is_stand, d_is_share, d_is_house_by, d_check_house, d_check_start, d_check_weights, d_check_between, d_deed_worth, d_first_best, d_timed_by, d_marks_in, d_stands_of, d_deeds_of, d_are_marks, d_is_dim_by, d_hold_at, d_holds_by, d_behind_by, d_gains_from, d_some_tree, d_best_by, d_best_lookout_by, d_check_dim, d_check_steps, d_best_lookout, d_checked, d_timed_worths, d_law_pot, d_law_take, d_law_pick, d_law_shuffled, d_law_low, d_law_plus, d_law_times, d_law_below, d_law_total, d_law_dot, d_law_end, d_law_share, d_law_number, d_law_gains, d_law_weights, d_law_lot, d_law_odds, d_law_is_whole, d_law_is_fraction, d_law_chances, d_law_marks, d_law_dim, d_law_deeds, d_law_few, d_law_any_house, d_law_timed, d_law_number_told, d_law_other_sight, d_law_right, d_law]
theorem bt_all : bootBuiltins "all" = some (.builtin "all") := by decide +kernel
theorem bt_any : bootBuiltins "any" = some (.builtin "any") := by decide +kernel
theorem bt_abs : bootBuiltins "abs" = some (.builtin "abs") := by decide +kernel
theorem bt_bool : bootBuiltins "bool" = some (.type "bool") := by decide +kernel
theorem bt_divmod : bootBuiltins "divmod" = some (.builtin "divmod") := by decide +kernel
theorem bt_enumerate : bootBuiltins "enumerate" = some (.type "enumerate") := by decide +kernel
theorem bt_int : bootBuiltins "int" = some (.type "int") := by decide +kernel
theorem bt_isinstance : bootBuiltins "isinstance" = some (.builtin "isinstance") := by decide +kernel
theorem bt_len : bootBuiltins "len" = some (.builtin "len") := by decide +kernel
theorem bt_list : bootBuiltins "list" = some (.type "list") := by decide +kernel
theorem bt_max : bootBuiltins "max" = some (.builtin "max") := by decide +kernel
theorem bt_min : bootBuiltins "min" = some (.builtin "min") := by decide +kernel
theorem bt_range : bootBuiltins "range" = some (.type "range") := by decide +kernel
theorem bt_repr : bootBuiltins "repr" = some (.builtin "repr") := by decide +kernel
theorem bt_sorted : bootBuiltins "sorted" = some (.builtin "sorted") := by decide +kernel
theorem bt_sum : bootBuiltins "sum" = some (.builtin "sum") := by decide +kernel
theorem bt_tuple : bootBuiltins "tuple" = some (.type "tuple") := by decide +kernel
theorem bt_zip : bootBuiltins "zip" = some (.type "zip") := by decide +kernel
/-- the function data at the module's name x -/
def fdAt (K : PySem.W.Frag) (a : Addr) : FuncData := match K.lookup a with
  | some ⟨_, _, .func fd, _⟩ => fd
  | _ => (PySem.W.fnOf "" "" ⟨[], [], none, [], [], none, []⟩ [] { kind := .function, names := [], isGenerator := false, isCoroutine := false } .none .none .none .none none .none .none)
abbrev Fd (K : PySem.W.Frag) (d : He.DefD) : Prop := FunD K d.name d.qual d.params d.body d.scope [] [] (He.ga K d.name) (fdAt K (He.ga K d.name))
structure Tx (K : PySem.W.Frag) (mg : Str → Option Value) : Prop where
  z_all : mg "all" = none
  z_any : mg "any" = none
  z_abs : mg "abs" = none
  z_bool : mg "bool" = none
  z_divmod : mg "divmod" = none
  z_enumerate : mg "enumerate" = none
  z_int : mg "int" = none
  z_isinstance : mg "isinstance" = none
  z_len : mg "len" = none
  z_list : mg "list" = none
  z_max : mg "max" = none
  z_min : mg "min" = none
  z_range : mg "range" = none
  z_repr : mg "repr" = none
  z_sorted : mg "sorted" = none
  z_sum : mg "sum" = none
  z_tuple : mg "tuple" = none
  z_zip : mg "zip" = none
  i_MOST_PAYS : ∃ t, mg "MOST_PAYS" = some (.int 4 t)
  i_MOST_STANDS : ∃ t, mg "MOST_STANDS" = some (.int 8 t)
  i_MOST_DEEDS : ∃ t, mg "MOST_DEEDS" = some (.int 4 t)
  i_MOST_MARK : ∃ t, mg "MOST_MARK" = some (.int 2 t)
  i_MOST_STEPS : ∃ t, mg "MOST_STEPS" = some (.int 4 t)
  i_MOST_TIMED : ∃ t, mg "MOST_TIMED" = some (.int 30 t)
  m_gcd : mg "gcd" = some (.builtin "math.gcd")
  m_ZERO : mg "ZERO" = some (.ref (He.ga K "ZERO"))
  m_ONE : mg "ONE" = some (.ref (He.ga K "ONE"))
  t_ZERO : ∀ H, SqT K H (He.ga K "ZERO") [.int 0, .int 1]
  w_ZERO : He.tupB K "ZERO" [.int 0, .int 1] = true
  w_ONE : He.tupB K "ONE" [.int 1, .int 1] = true
  m_is_whole : mg "is_whole" = some (.ref (He.ga K "is_whole"))
  F_is_whole : Fd K d_is_whole
  m_is_between : mg "is_between" = some (.ref (He.ga K "is_between"))
  F_is_between : Fd K d_is_between
  m_is_tuple_of : mg "is_tuple_of" = some (.ref (He.ga K "is_tuple_of"))
  F_is_tuple_of : Fd K d_is_tuple_of
  m_is_ratio : mg "is_ratio" = some (.ref (He.ga K "is_ratio"))
  F_is_ratio : Fd K d_is_ratio
  m_is_row : mg "is_row" = some (.ref (He.ga K "is_row"))
  F_is_row : Fd K d_is_row
  m_ratio : mg "ratio" = some (.ref (He.ga K "ratio"))
  F_ratio : Fd K d_ratio
  m_plus : mg "plus" = some (.ref (He.ga K "plus"))
  F_plus : Fd K d_plus
  m_times : mg "times" = some (.ref (He.ga K "times"))
  F_times : Fd K d_times
  m_is_less : mg "is_less" = some (.ref (He.ga K "is_less"))
  F_is_less : Fd K d_is_less
  m_total : mg "total" = some (.ref (He.ga K "total"))
  F_total : Fd K d_total
  m_dot : mg "dot" = some (.ref (He.ga K "dot"))
  F_dot : Fd K d_dot
  m_noughts : mg "noughts" = some (.ref (He.ga K "noughts"))
  F_noughts : Fd K d_noughts
  m_are_chances : mg "are_chances" = some (.ref (He.ga K "are_chances"))
  F_are_chances : Fd K d_are_chances
  m_is_deed : mg "is_deed" = some (.ref (He.ga K "is_deed"))
  F_is_deed : Fd K d_is_deed
  m_is_stand : mg "is_stand" = some (.ref (He.ga K "is_stand"))
  F_is_stand : Fd K d_is_stand
  m_is_share : mg "is_share" = some (.ref (He.ga K "is_share"))
  F_is_share : Fd K d_is_share
  m_is_house_by : mg "is_house_by" = some (.ref (He.ga K "is_house_by"))
  F_is_house_by : Fd K d_is_house_by
  m_check_house : mg "check_house" = some (.ref (He.ga K "check_house"))
  F_check_house : Fd K d_check_house
  m_check_start : mg "check_start" = some (.ref (He.ga K "check_start"))
  F_check_start : Fd K d_check_start
  m_check_weights : mg "check_weights" = some (.ref (He.ga K "check_weights"))
  F_check_weights : Fd K d_check_weights
  m_check_between : mg "check_between" = some (.ref (He.ga K "check_between"))
  F_check_between : Fd K d_check_between
  m_deed_worth : mg "deed_worth" = some (.ref (He.ga K "deed_worth"))
  F_deed_worth : Fd K d_deed_worth
  m_first_best : mg "first_best" = some (.ref (He.ga K "first_best"))
  F_first_best : Fd K d_first_best
  m_timed_by : mg "timed_by" = some (.ref (He.ga K "timed_by"))
  F_timed_by : Fd K d_timed_by
  m_marks_in : mg "marks_in" = some (.ref (He.ga K "marks_in"))
  F_marks_in : Fd K d_marks_in
  m_stands_of : mg "stands_of" = some (.ref (He.ga K "stands_of"))
  F_stands_of : Fd K d_stands_of
  m_deeds_of : mg "deeds_of" = some (.ref (He.ga K "deeds_of"))
  F_deeds_of : Fd K d_deeds_of
  m_are_marks : mg "are_marks" = some (.ref (He.ga K "are_marks"))
  F_are_marks : Fd K d_are_marks
  m_is_dim_by : mg "is_dim_by" = some (.ref (He.ga K "is_dim_by"))
  F_is_dim_by : Fd K d_is_dim_by
  m_hold_at : mg "hold_at" = some (.ref (He.ga K "hold_at"))
  F_hold_at : Fd K d_hold_at
  m_holds_by : mg "holds_by" = some (.ref (He.ga K "holds_by"))
  F_holds_by : Fd K d_holds_by
  m_behind_by : mg "behind_by" = some (.ref (He.ga K "behind_by"))
  F_behind_by : Fd K d_behind_by
  m_gains_from : mg "gains_from" = some (.ref (He.ga K "gains_from"))
  F_gains_from : Fd K d_gains_from
  m_some_tree : mg "some_tree" = some (.ref (He.ga K "some_tree"))
  F_some_tree : Fd K d_some_tree
  m_best_by : mg "best_by" = some (.ref (He.ga K "best_by"))
  F_best_by : Fd K d_best_by
  m_best_lookout_by : mg "best_lookout_by" = some (.ref (He.ga K "best_lookout_by"))
  F_best_lookout_by : Fd K d_best_lookout_by
  m_check_dim : mg "check_dim" = some (.ref (He.ga K "check_dim"))
  F_check_dim : Fd K d_check_dim
  m_check_steps : mg "check_steps" = some (.ref (He.ga K "check_steps"))
  F_check_steps : Fd K d_check_steps
  m_best_lookout : mg "best_lookout" = some (.ref (He.ga K "best_lookout"))
  F_best_lookout : Fd K d_best_lookout
  m_checked : mg "checked" = some (.ref (He.ga K "checked"))
  F_checked : Fd K d_checked
  m_timed_worths : mg "timed_worths" = some (.ref (He.ga K "timed_worths"))
  F_timed_worths : Fd K d_timed_worths
  m_law_pot : mg "_law_pot" = some (.ref (He.ga K "_law_pot"))
  F_law_pot : Fd K d_law_pot
  m_law_take : mg "_law_take" = some (.ref (He.ga K "_law_take"))
  F_law_take : Fd K d_law_take
  m_law_pick : mg "_law_pick" = some (.ref (He.ga K "_law_pick"))
  F_law_pick : Fd K d_law_pick
  m_law_shuffled : mg "_law_shuffled" = some (.ref (He.ga K "_law_shuffled"))
  F_law_shuffled : Fd K d_law_shuffled
  m_law_low : mg "_law_low" = some (.ref (He.ga K "_law_low"))
  F_law_low : Fd K d_law_low
  m_law_plus : mg "_law_plus" = some (.ref (He.ga K "_law_plus"))
  F_law_plus : Fd K d_law_plus
  m_law_times : mg "_law_times" = some (.ref (He.ga K "_law_times"))
  F_law_times : Fd K d_law_times
  m_law_below : mg "_law_below" = some (.ref (He.ga K "_law_below"))
  F_law_below : Fd K d_law_below
  m_law_total : mg "_law_total" = some (.ref (He.ga K "_law_total"))
  F_law_total : Fd K d_law_total
  m_law_dot : mg "_law_dot" = some (.ref (He.ga K "_law_dot"))
  F_law_dot : Fd K d_law_dot
  m_law_end : mg "_law_end" = some (.ref (He.ga K "_law_end"))
  F_law_end : Fd K d_law_end
  m_law_share : mg "_law_share" = some (.ref (He.ga K "_law_share"))
  F_law_share : Fd K d_law_share
  m_law_number : mg "_law_number" = some (.ref (He.ga K "_law_number"))
  F_law_number : Fd K d_law_number
  m_law_gains : mg "_law_gains" = some (.ref (He.ga K "_law_gains"))
  F_law_gains : Fd K d_law_gains
  m_law_weights : mg "_law_weights" = some (.ref (He.ga K "_law_weights"))
  F_law_weights : Fd K d_law_weights
  m_law_lot : mg "_law_lot" = some (.ref (He.ga K "_law_lot"))
  F_law_lot : Fd K d_law_lot
  m_law_odds : mg "_law_odds" = some (.ref (He.ga K "_law_odds"))
  F_law_odds : Fd K d_law_odds
  m_law_is_whole : mg "_law_is_whole" = some (.ref (He.ga K "_law_is_whole"))
  F_law_is_whole : Fd K d_law_is_whole
  m_law_is_fraction : mg "_law_is_fraction" = some (.ref (He.ga K "_law_is_fraction"))
  F_law_is_fraction : Fd K d_law_is_fraction
  m_law_chances : mg "_law_chances" = some (.ref (He.ga K "_law_chances"))
  F_law_chances : Fd K d_law_chances
  m_law_marks : mg "_law_marks" = some (.ref (He.ga K "_law_marks"))
  F_law_marks : Fd K d_law_marks
  m_law_dim : mg "_law_dim" = some (.ref (He.ga K "_law_dim"))
  F_law_dim : Fd K d_law_dim
  m_law_deeds : mg "_law_deeds" = some (.ref (He.ga K "_law_deeds"))
  F_law_deeds : Fd K d_law_deeds
  m_law_few : mg "_law_few" = some (.ref (He.ga K "_law_few"))
  F_law_few : Fd K d_law_few
  m_law_any_house : mg "_law_any_house" = some (.ref (He.ga K "_law_any_house"))
  F_law_any_house : Fd K d_law_any_house
  m_law_timed : mg "_law_timed" = some (.ref (He.ga K "_law_timed"))
  F_law_timed : Fd K d_law_timed
  m_law_number_told : mg "_law_number_told" = some (.ref (He.ga K "_law_number_told"))
  F_law_number_told : Fd K d_law_number_told
  m_law_other_sight : mg "_law_other_sight" = some (.ref (He.ga K "_law_other_sight"))
  F_law_other_sight : Fd K d_law_other_sight
  m_law_right : mg "_law_right" = some (.ref (He.ga K "_law_right"))
  F_law_right : Fd K d_law_right
  m_law : mg "law" = some (.ref (He.ga K "law"))
  F_law : Fd K d_law
section
variable {K : PySem.W.Frag} {mg : Str → Option Value}
theorem b_is_whole (T : Tx K mg) : Binds K (fdAt K (He.ga K "is_whole")) ["value"] [] := FunD.bindsN T.F_is_whole fun _ _ _ _ _ _ us hl => match us, hl with | [_], _ => rfl
theorem b_is_between (T : Tx K mg) : Binds K (fdAt K (He.ga K "is_between")) ["value", "low", "high"] [] := FunD.bindsN T.F_is_between fun _ _ _ _ _ _ us hl => match us, hl with | [_, _, _], _ => rfl
theorem b_is_tuple_of (T : Tx K mg) : Binds K (fdAt K (He.ga K "is_tuple_of")) ["value", "many"] [] := FunD.bindsN T.F_is_tuple_of fun _ _ _ _ _ _ us hl => match us, hl with | [_, _], _ => rfl
theorem b_is_ratio (T : Tx K mg) : Binds K (fdAt K (He.ga K "is_ratio")) ["value"] [] := FunD.bindsN T.F_is_ratio fun _ _ _ _ _ _ us hl => match us, hl with | [_], _ => rfl
theorem b_is_row (T : Tx K mg) : Binds K (fdAt K (He.ga K "is_row")) ["value", "many"] [] := FunD.bindsN T.F_is_row fun _ _ _ _ _ _ us hl => match us, hl with | [_, _], _ => rfl
theorem b_ratio (T : Tx K mg) : Binds K (fdAt K (He.ga K "ratio")) ["top", "low"] [] := FunD.bindsN T.F_ratio fun _ _ _ _ _ _ us hl => match us, hl with | [_, _], _ => rfl
theorem b_plus (T : Tx K mg) : Binds K (fdAt K (He.ga K "plus")) ["one", "two"] [] := FunD.bindsN T.F_plus fun _ _ _ _ _ _ us hl => match us, hl with | [_, _], _ => rfl
theorem b_times (T : Tx K mg) : Binds K (fdAt K (He.ga K "times")) ["one", "two"] [] := FunD.bindsN T.F_times fun _ _ _ _ _ _ us hl => match us, hl with | [_, _], _ => rfl
theorem b_is_less (T : Tx K mg) : Binds K (fdAt K (He.ga K "is_less")) ["one", "two"] [] := FunD.bindsN T.F_is_less fun _ _ _ _ _ _ us hl => match us, hl with | [_, _], _ => rfl
theorem b_total (T : Tx K mg) : Binds K (fdAt K (He.ga K "total")) ["fractions"] [] := FunD.bindsN T.F_total fun _ _ _ _ _ _ us hl => match us, hl with | [_], _ => rfl
theorem b_dot (T : Tx K mg) : Binds K (fdAt K (He.ga K "dot")) ["one", "two"] [] := FunD.bindsN T.F_dot fun _ _ _ _ _ _ us hl => match us, hl with | [_, _], _ => rfl
theorem b_noughts (T : Tx K mg) : Binds K (fdAt K (He.ga K "noughts")) ["many"] [] := FunD.bindsN T.F_noughts fun _ _ _ _ _ _ us hl => match us, hl with | [_], _ => rfl
theorem b_are_chances (T : Tx K mg) : Binds K (fdAt K (He.ga K "are_chances")) ["value", "stands"] [] := FunD.bindsN T.F_are_chances fun _ _ _ _ _ _ us hl => match us, hl with | [_, _], _ => rfl
theorem b_is_deed (T : Tx K mg) : Binds K (fdAt K (He.ga K "is_deed")) ["value", "pays", "stands"] [] := FunD.bindsN T.F_is_deed fun _ _ _ _ _ _ us hl => match us, hl with | [_, _, _], _ => rfl
theorem b_is_stand (T : Tx K mg) : Binds K (fdAt K (He.ga K "is_stand")) ["value", "pays", "stands"] [] := FunD.bindsN T.F_is_stand fun _ _ _ _ _ _ us hl => match us, hl with | [_, _, _], _ => rfl
theorem b_is_share (T : Tx K mg) : Binds K (fdAt K (He.ga K "is_share")) ["value"] [] := FunD.bindsN T.F_is_share fun _ _ _ _ _ _ us hl => match us, hl with | [_], _ => rfl
theorem b_is_house_by (T : Tx K mg) : Binds K (fdAt K (He.ga K "is_house_by")) ["value"] [] := FunD.bindsN T.F_is_house_by fun _ _ _ _ _ _ us hl => match us, hl with | [_], _ => rfl
theorem b_check_house (T : Tx K mg) : Binds K (fdAt K (He.ga K "check_house")) ["value"] [] := FunD.bindsN T.F_check_house fun _ _ _ _ _ _ us hl => match us, hl with | [_], _ => rfl
theorem b_check_start (T : Tx K mg) : Binds K (fdAt K (He.ga K "check_start")) ["house", "value"] [] := FunD.bindsN T.F_check_start fun _ _ _ _ _ _ us hl => match us, hl with | [_, _], _ => rfl
theorem b_check_weights (T : Tx K mg) : Binds K (fdAt K (He.ga K "check_weights")) ["house", "value"] [] := FunD.bindsN T.F_check_weights fun _ _ _ _ _ _ us hl => match us, hl with | [_, _], _ => rfl
theorem b_check_between (T : Tx K mg) : Binds K (fdAt K (He.ga K "check_between")) ["value", "low", "high"] [] := FunD.bindsN T.F_check_between fun _ _ _ _ _ _ us hl => match us, hl with | [_, _, _], _ => rfl
theorem b_deed_worth (T : Tx K mg) : Binds K (fdAt K (He.ga K "deed_worth")) ["house", "weights", "worths", "deed"] [] := FunD.bindsN T.F_deed_worth fun _ _ _ _ _ _ us hl => match us, hl with | [_, _, _, _], _ => rfl
theorem b_first_best (T : Tx K mg) : Binds K (fdAt K (He.ga K "first_best")) ["row"] [] := FunD.bindsN T.F_first_best fun _ _ _ _ _ _ us hl => match us, hl with | [_], _ => rfl
theorem b_timed_by (T : Tx K mg) : Binds K (fdAt K (He.ga K "timed_by")) ["house", "weights", "many"] [] := FunD.bindsN T.F_timed_by fun _ _ _ _ _ _ us hl => match us, hl with | [_, _, _], _ => rfl
theorem b_marks_in (T : Tx K mg) : Binds K (fdAt K (He.ga K "marks_in")) ["dim"] [] := FunD.bindsN T.F_marks_in fun _ _ _ _ _ _ us hl => match us, hl with | [_], _ => rfl
theorem b_stands_of (T : Tx K mg) : Binds K (fdAt K (He.ga K "stands_of")) ["dim", "mark"] [] := FunD.bindsN T.F_stands_of fun _ _ _ _ _ _ us hl => match us, hl with | [_, _], _ => rfl
theorem b_deeds_of (T : Tx K mg) : Binds K (fdAt K (He.ga K "deeds_of")) ["dim", "mark"] [] := FunD.bindsN T.F_deeds_of fun _ _ _ _ _ _ us hl => match us, hl with | [_, _], _ => rfl
theorem b_are_marks (T : Tx K mg) : Binds K (fdAt K (He.ga K "are_marks")) ["house", "value"] [] := FunD.bindsN T.F_are_marks fun _ _ _ _ _ _ us hl => match us, hl with | [_, _], _ => rfl
theorem b_is_dim_by (T : Tx K mg) : Binds K (fdAt K (He.ga K "is_dim_by")) ["value"] [] := FunD.bindsN T.F_is_dim_by fun _ _ _ _ _ _ us hl => match us, hl with | [_], _ => rfl
theorem b_hold_at (T : Tx K mg) : Binds K (fdAt K (He.ga K "hold_at")) ["dim", "mark", "numbers"] [] := FunD.bindsN T.F_hold_at fun _ _ _ _ _ _ us hl => match us, hl with | [_, _, _], _ => rfl
theorem b_holds_by (T : Tx K mg) : Binds K (fdAt K (He.ga K "holds_by")) ["dim", "numbers"] [] := FunD.bindsN T.F_holds_by fun _ _ _ _ _ _ us hl => match us, hl with | [_, _], _ => rfl
theorem b_behind_by (T : Tx K mg) : Binds K (fdAt K (He.ga K "behind_by")) ["dim", "mark", "hold", "deed"] [] := FunD.bindsN T.F_behind_by fun _ _ _ _ _ _ us hl => match us, hl with | [_, _, _, _], _ => rfl
theorem b_gains_from (T : Tx K mg) : Binds K (fdAt K (He.ga K "gains_from")) ["dim", "weights", "mark", "hold", "deed"] [] := FunD.bindsN T.F_gains_from fun _ _ _ _ _ _ us hl => match us, hl with | [_, _, _, _, _], _ => rfl
theorem b_some_tree (T : Tx K mg) : Binds K (fdAt K (He.ga K "some_tree")) ["dim", "many"] [] := FunD.bindsN T.F_some_tree fun _ _ _ _ _ _ us hl => match us, hl with | [_, _], _ => rfl
theorem b_best_by (T : Tx K mg) : Binds K (fdAt K (He.ga K "best_by")) ["dim", "weights", "mark", "many", "hold"] [] := FunD.bindsN T.F_best_by fun _ _ _ _ _ _ us hl => match us, hl with | [_, _, _, _, _], _ => rfl
theorem b_best_lookout_by (T : Tx K mg) : Binds K (fdAt K (He.ga K "best_lookout_by")) ["dim", "start", "weights", "many"] [] := FunD.bindsN T.F_best_lookout_by fun _ _ _ _ _ _ us hl => match us, hl with | [_, _, _, _], _ => rfl
theorem b_check_dim (T : Tx K mg) : Binds K (fdAt K (He.ga K "check_dim")) ["value"] [] := FunD.bindsN T.F_check_dim fun _ _ _ _ _ _ us hl => match us, hl with | [_], _ => rfl
theorem b_check_steps (T : Tx K mg) : Binds K (fdAt K (He.ga K "check_steps")) ["value"] [] := FunD.bindsN T.F_check_steps fun _ _ _ _ _ _ us hl => match us, hl with | [_], _ => rfl
theorem b_best_lookout (T : Tx K mg) : Binds K (fdAt K (He.ga K "best_lookout")) ["dim", "start", "weights", "many"] [] := FunD.bindsN T.F_best_lookout fun _ _ _ _ _ _ us hl => match us, hl with | [_, _, _, _], _ => rfl
theorem b_checked (T : Tx K mg) : Binds K (fdAt K (He.ga K "checked")) ["house", "weights", "many"] [] := FunD.bindsN T.F_checked fun _ _ _ _ _ _ us hl => match us, hl with | [_, _, _], _ => rfl
theorem b_timed_worths (T : Tx K mg) : Binds K (fdAt K (He.ga K "timed_worths")) ["house", "weights", "many"] [] := FunD.bindsN T.F_timed_worths fun _ _ _ _ _ _ us hl => match us, hl with | [_, _, _], _ => rfl
theorem b_law_pot (T : Tx K mg) : Binds K (fdAt K (He.ga K "_law_pot")) ["_law_script", "_law_spot"] [] := FunD.bindsN T.F_law_pot fun _ _ _ _ _ _ us hl => match us, hl with | [_, _], _ => rfl
theorem b_law_take (T : Tx K mg) : Binds K (fdAt K (He.ga K "_law_take")) ["_law_pot_here", "_law_many"] [] := FunD.bindsN T.F_law_take fun _ _ _ _ _ _ us hl => match us, hl with | [_, _], _ => rfl
theorem b_law_pick (T : Tx K mg) : Binds K (fdAt K (He.ga K "_law_pick")) ["_law_pot_here", "_law_some"] [] := FunD.bindsN T.F_law_pick fun _ _ _ _ _ _ us hl => match us, hl with | [_, _], _ => rfl
theorem b_law_shuffled (T : Tx K mg) : Binds K (fdAt K (He.ga K "_law_shuffled")) ["_law_pot_here", "_law_many"] [] := FunD.bindsN T.F_law_shuffled fun _ _ _ _ _ _ us hl => match us, hl with | [_, _], _ => rfl
theorem b_law_low (T : Tx K mg) : Binds K (fdAt K (He.ga K "_law_low")) ["_law_top", "_law_low_here"] [] := FunD.bindsN T.F_law_low fun _ _ _ _ _ _ us hl => match us, hl with | [_, _], _ => rfl
theorem b_law_plus (T : Tx K mg) : Binds K (fdAt K (He.ga K "_law_plus")) ["_law_one", "_law_two"] [] := FunD.bindsN T.F_law_plus fun _ _ _ _ _ _ us hl => match us, hl with | [_, _], _ => rfl
theorem b_law_times (T : Tx K mg) : Binds K (fdAt K (He.ga K "_law_times")) ["_law_one", "_law_two"] [] := FunD.bindsN T.F_law_times fun _ _ _ _ _ _ us hl => match us, hl with | [_, _], _ => rfl
theorem b_law_below (T : Tx K mg) : Binds K (fdAt K (He.ga K "_law_below")) ["_law_one", "_law_two"] [] := FunD.bindsN T.F_law_below fun _ _ _ _ _ _ us hl => match us, hl with | [_, _], _ => rfl
theorem b_law_total (T : Tx K mg) : Binds K (fdAt K (He.ga K "_law_total")) ["_law_some"] [] := FunD.bindsN T.F_law_total fun _ _ _ _ _ _ us hl => match us, hl with | [_], _ => rfl
theorem b_law_dot (T : Tx K mg) : Binds K (fdAt K (He.ga K "_law_dot")) ["_law_one", "_law_two"] [] := FunD.bindsN T.F_law_dot fun _ _ _ _ _ _ us hl => match us, hl with | [_, _], _ => rfl
theorem b_law_end (T : Tx K mg) : Binds K (fdAt K (He.ga K "_law_end")) ["_law_some", "_law_is_greatest"] [] := FunD.bindsN T.F_law_end fun _ _ _ _ _ _ us hl => match us, hl with | [_, _], _ => rfl
theorem b_law_share (T : Tx K mg) : Binds K (fdAt K (He.ga K "_law_share")) ["_law_pot_here"] [] := FunD.bindsN T.F_law_share fun _ _ _ _ _ _ us hl => match us, hl with | [_], _ => rfl
theorem b_law_number (T : Tx K mg) : Binds K (fdAt K (He.ga K "_law_number")) ["_law_pot_here"] [] := FunD.bindsN T.F_law_number fun _ _ _ _ _ _ us hl => match us, hl with | [_], _ => rfl
theorem b_law_gains (T : Tx K mg) : Binds K (fdAt K (He.ga K "_law_gains")) ["_law_pot_here", "_law_pays"] [] := FunD.bindsN T.F_law_gains fun _ _ _ _ _ _ us hl => match us, hl with | [_, _], _ => rfl
theorem b_law_weights (T : Tx K mg) : Binds K (fdAt K (He.ga K "_law_weights")) ["_law_pot_here", "_law_pays"] [] := FunD.bindsN T.F_law_weights fun _ _ _ _ _ _ us hl => match us, hl with | [_, _], _ => rfl
theorem b_law_lot (T : Tx K mg) : Binds K (fdAt K (He.ga K "_law_lot")) ["_law_pot_here", "_law_many"] [] := FunD.bindsN T.F_law_lot fun _ _ _ _ _ _ us hl => match us, hl with | [_, _], _ => rfl
theorem b_law_odds (T : Tx K mg) : Binds K (fdAt K (He.ga K "_law_odds")) ["_law_pot_here", "_law_many"] [] := FunD.bindsN T.F_law_odds fun _ _ _ _ _ _ us hl => match us, hl with | [_, _], _ => rfl
theorem b_law_is_whole (T : Tx K mg) : Binds K (fdAt K (He.ga K "_law_is_whole")) ["_law_value"] [] := FunD.bindsN T.F_law_is_whole fun _ _ _ _ _ _ us hl => match us, hl with | [_], _ => rfl
theorem b_law_is_fraction (T : Tx K mg) : Binds K (fdAt K (He.ga K "_law_is_fraction")) ["_law_value"] [] := FunD.bindsN T.F_law_is_fraction fun _ _ _ _ _ _ us hl => match us, hl with | [_], _ => rfl
theorem b_law_chances (T : Tx K mg) : Binds K (fdAt K (He.ga K "_law_chances")) ["_law_pot_here", "_law_many", "_law_most"] [] := FunD.bindsN T.F_law_chances fun _ _ _ _ _ _ us hl => match us, hl with | [_, _, _], _ => rfl
theorem b_law_marks (T : Tx K mg) : Binds K (fdAt K (He.ga K "_law_marks")) ["_law_pot_here", "_law_many"] [] := FunD.bindsN T.F_law_marks fun _ _ _ _ _ _ us hl => match us, hl with | [_, _], _ => rfl
theorem b_law_dim (T : Tx K mg) : Binds K (fdAt K (He.ga K "_law_dim")) ["_law_pot_here", "_law_sizes", "_law_some"] [] := FunD.bindsN T.F_law_dim fun _ _ _ _ _ _ us hl => match us, hl with | [_, _, _], _ => rfl
theorem b_law_deeds (T : Tx K mg) : Binds K (fdAt K (He.ga K "_law_deeds")) ["_law_dim_here"] [] := FunD.bindsN T.F_law_deeds fun _ _ _ _ _ _ us hl => match us, hl with | [_], _ => rfl
theorem b_law_few (T : Tx K mg) : Binds K (fdAt K (He.ga K "_law_few")) ["_law_pot_here", "_law_deeds_here", "_law_cap"] [] := FunD.bindsN T.F_law_few fun _ _ _ _ _ _ us hl => match us, hl with | [_, _, _], _ => rfl
theorem b_law_any_house (T : Tx K mg) : Binds K (fdAt K (He.ga K "_law_any_house")) ["_law_pot_here", "_law_sizes"] [] := FunD.bindsN T.F_law_any_house fun _ _ _ _ _ _ us hl => match us, hl with | [_, _], _ => rfl
theorem b_law_timed (T : Tx K mg) : Binds K (fdAt K (He.ga K "_law_timed")) ["_law_house", "_law_weights_here", "_law_many"] [] := FunD.bindsN T.F_law_timed fun _ _ _ _ _ _ us hl => match us, hl with | [_, _, _], _ => rfl
theorem b_law_number_told (T : Tx K mg) : Binds K (fdAt K (He.ga K "_law_number_told")) ["_law_dim_here", "_law_start", "_law_weights_here", "_law_many"] [] := FunD.bindsN T.F_law_number_told fun _ _ _ _ _ _ us hl => match us, hl with | [_, _, _, _], _ => rfl
theorem b_law_other_sight (T : Tx K mg) : Binds K (fdAt K (He.ga K "_law_other_sight")) ["_law_pot_here", "_law_marks_here"] [] := FunD.bindsN T.F_law_other_sight fun _ _ _ _ _ _ us hl => match us, hl with | [_, _], _ => rfl
theorem b_law_right (T : Tx K mg) : Binds K (fdAt K (He.ga K "_law_right")) ["_law_pot_here"] [] := FunD.bindsN T.F_law_right fun _ _ _ _ _ _ us hl => match us, hl with | [_], _ => rfl
theorem b_law (T : Tx K mg) : Binds K (fdAt K (He.ga K "law")) ["_law_script"] [] := FunD.bindsN T.F_law fun _ _ _ _ _ _ us hl => match us, hl with | [_], _ => rfl
end
end K66

/-! HdK: the head (printed by genhead.py, own program) -/
namespace K66
open PySem PySem.Spec PyProof.Rows L2
def loose0 : List PySem.Str := ["is_whole", "is_between", "is_tuple_of", "ZERO", "ONE", "is_ratio", "is_row", "ratio", "plus", "times", "is_less", "total", "dot", "noughts", "MOST_PAYS", "MOST_STANDS", "MOST_DEEDS", "are_chances", "is_deed", "is_stand"]
def loose1 : List PySem.Str := ["is_share", "is_house_by", "HouseError", "InvalidNumber", "InvalidHouse", "InvalidDim", "InvalidStart", "InvalidWeights", "check_house", "check_start", "check_weights", "check_between", "deed_worth", "first_best", "timed_by", "MOST_MARK", "MOST_STEPS", "marks_in", "stands_of", "deeds_of"]
def loose2 : List PySem.Str := ["are_marks", "is_dim_by", "hold_at", "holds_by", "behind_by", "gains_from", "some_tree", "best_by", "best_lookout_by", "check_dim", "check_steps", "best_lookout", "MOST_TIMED", "checked", "timed_worths", "_law_pot", "_law_take", "_law_pick", "_law_shuffled", "_law_low"]
def loose3 : List PySem.Str := ["_law_plus", "_law_times", "_law_below", "_law_total", "_law_dot", "_law_end", "_law_share", "_law_number", "_law_gains", "_law_weights", "_law_lot", "_law_odds", "_law_is_whole", "_law_is_fraction", "_law_chances", "_law_marks", "_law_dim", "_law_deeds", "_law_few", "_law_any_house"]
def loose4 : List PySem.Str := ["_law_timed", "_law_number_told", "_law_other_sight", "_law_right"]
def looseL : List PySem.Str := loose0 ++ loose1 ++ loose2 ++ loose3 ++ loose4
def faL : List He.Fa := [.glo "is_whole", .glo "is_between", .glo "is_tuple_of", .glo "is_ratio", .glo "is_row", .glo "ratio", .glo "plus", .glo "times", .glo "is_less", .glo "total", .glo "dot", .glo "noughts", .glo "are_chances", .glo "is_deed", .glo "is_stand", .glo "is_share", .glo "is_house_by", .glo "check_house", .glo "check_start", .glo "check_weights"] ++ [.glo "check_between", .glo "deed_worth", .glo "first_best", .glo "timed_by", .glo "marks_in", .glo "stands_of", .glo "deeds_of", .glo "are_marks", .glo "is_dim_by", .glo "hold_at", .glo "holds_by", .glo "behind_by", .glo "gains_from", .glo "some_tree", .glo "best_by", .glo "best_lookout_by", .glo "check_dim", .glo "check_steps", .glo "best_lookout", .glo "checked"] ++ [.glo "timed_worths", .glo "_law_pot", .glo "_law_take", .glo "_law_pick", .glo "_law_shuffled", .glo "_law_low", .glo "_law_plus", .glo "_law_times", .glo "_law_below", .glo "_law_total", .glo "_law_dot", .glo "_law_end", .glo "_law_share", .glo "_law_number", .glo "_law_gains", .glo "_law_weights", .glo "_law_lot", .glo "_law_odds", .glo "_law_is_whole", .glo "_law_is_fraction"] ++ [.glo "_law_chances", .glo "_law_marks", .glo "_law_dim", .glo "_law_deeds", .glo "_law_few", .glo "_law_any_house", .glo "_law_timed", .glo "_law_number_told", .glo "_law_other_sight", .glo "_law_right", .glo "law", .free "all", .free "any", .free "abs", .free "bool", .free "divmod", .free "enumerate", .free "int", .free "isinstance", .free "len"] ++ [.free "list", .free "max", .free "min", .free "range", .free "repr", .free "sorted", .free "sum", .free "tuple", .free "zip", .int "MOST_PAYS" 4, .int "MOST_STANDS" 8, .int "MOST_DEEDS" 4, .int "MOST_MARK" 2, .int "MOST_STEPS" 4, .int "MOST_TIMED" 30, .glo "ZERO", .glo "ONE"]
def exB (K : PySem.W.Frag) : Bool := He.tupB K "ZERO" [.int 0, .int 1] && (He.tupB K "ONE" [.int 1, .int 1] && decide (PySem.W.nsIn K mainGlobals "gcd" = some (some (.builtin "math.gcd"))))
abbrev AlK : Type := He.AlD × Bool
def obsK (n : Nat) (g : Addr → Option Obj) : AlK := (He.obsD faL fnL (He.frG g (He.asD g n)), exB (He.frG g (He.asD g n)))
def valK : AlK := (He.valD fnL, true)
def hookK : PySem.W.Hook where
  α := AlK
  obs := fun s => obsK 2 s.heap.get?
  val := fun _ => valK
  says := fun _ h => ∃ K : PySem.W.Frag, K.In h ∧ He.SaysD faL fnL K ∧ exB K = true
  of := fun _ _ e => ⟨_, He.frG_in, congrArg (fun z : AlK => z.1) e, congrArg (fun z : AlK => z.2) e⟩
  keeps := fun _ _ _ ⟨K, hK, c⟩ k => ⟨K, PySem.W.Frag.In.keeps hK k, c⟩
abbrev RR : PySem.W.OpenRow := PySem.W.OpenLaw.row PySem.Challenge.rw_deedhouses_k66_whole_finer_sights_and_al
def obT (s : PySem.W.SharedT) : AlK := obsK 2 (HandSHeadRun.getT s)
theorem obT_eq (s : PySem.W.SharedT) : obT s = hookK.obs s.abs := by
  have e : HandSHeadRun.getT s = s.abs.heap.get? := funext fun a => HandSHeadRun.getT_eq s a
  show obsK 2 _ = obsK 2 _
  rw [e]
theorem fd_at {K : PySem.W.Frag} {d : He.DefD} (h : ∃ fd, FunD K d.name d.qual d.params d.body d.scope [] [] (He.ga K d.name) fd) : Fd K d := by
  obtain ⟨fd, F⟩ := h
  obtain ⟨_, _, _, _, _, _, _, _, _, _, _, lk, _⟩ := F.ex
  have e : fdAt K (He.ga K d.name) = fd := by
    unfold fdAt
    rw [lk]
  show FunD K d.name d.qual d.params d.body d.scope [] [] (He.ga K d.name) (fdAt K (He.ga K d.name))
  rw [e]
  exact F
theorem tx_of {K : PySem.W.Frag} {h : Heap} {mg : Str → Option Value} (X : K.In h) (G : h.Ns mainGlobals mg) (c : He.SaysD faL fnL K) (e : exB K = true) : Tx K mg := by
  obtain ⟨e1, e2⟩ := Bool.and_eq_true_iff.mp e
  obtain ⟨e2, e3⟩ := Bool.and_eq_true_iff.mp e2
  exact {
    z_all := He.free_ok X G (c.fact 71 (f := .free "all") rfl)
    z_any := He.free_ok X G (c.fact 72 (f := .free "any") rfl)
    z_abs := He.free_ok X G (c.fact 73 (f := .free "abs") rfl)
    z_bool := He.free_ok X G (c.fact 74 (f := .free "bool") rfl)
    z_divmod := He.free_ok X G (c.fact 75 (f := .free "divmod") rfl)
    z_enumerate := He.free_ok X G (c.fact 76 (f := .free "enumerate") rfl)
    z_int := He.free_ok X G (c.fact 77 (f := .free "int") rfl)
    z_isinstance := He.free_ok X G (c.fact 78 (f := .free "isinstance") rfl)
    z_len := He.free_ok X G (c.fact 79 (f := .free "len") rfl)
    z_list := He.free_ok X G (c.fact 80 (f := .free "list") rfl)
    z_max := He.free_ok X G (c.fact 81 (f := .free "max") rfl)
    z_min := He.free_ok X G (c.fact 82 (f := .free "min") rfl)
    z_range := He.free_ok X G (c.fact 83 (f := .free "range") rfl)
    z_repr := He.free_ok X G (c.fact 84 (f := .free "repr") rfl)
    z_sorted := He.free_ok X G (c.fact 85 (f := .free "sorted") rfl)
    z_sum := He.free_ok X G (c.fact 86 (f := .free "sum") rfl)
    z_tuple := He.free_ok X G (c.fact 87 (f := .free "tuple") rfl)
    z_zip := He.free_ok X G (c.fact 88 (f := .free "zip") rfl)
    i_MOST_PAYS := He.int_ok X G (c.fact 89 (f := .int "MOST_PAYS" 4) rfl)
    i_MOST_STANDS := He.int_ok X G (c.fact 90 (f := .int "MOST_STANDS" 8) rfl)
    i_MOST_DEEDS := He.int_ok X G (c.fact 91 (f := .int "MOST_DEEDS" 4) rfl)
    i_MOST_MARK := He.int_ok X G (c.fact 92 (f := .int "MOST_MARK" 2) rfl)
    i_MOST_STEPS := He.int_ok X G (c.fact 93 (f := .int "MOST_STEPS" 4) rfl)
    i_MOST_TIMED := He.int_ok X G (c.fact 94 (f := .int "MOST_TIMED" 30) rfl)
    m_gcd := PySem.W.mg_of X G (of_decide_eq_true e3)
    m_ZERO := He.glo_ok X G (c.fact 95 (f := .glo "ZERO") rfl)
    m_ONE := He.glo_ok X G (c.fact 96 (f := .glo "ONE") rfl)
    t_ZERO := fun H => He.tupB_ok e1 H
    w_ZERO := e1
    w_ONE := e2
    m_is_whole := He.glo_ok X G (c.fact 0 (f := .glo "is_whole") rfl)
    F_is_whole := fd_at (c.def_ 0 (d := d_is_whole) rfl)
    m_is_between := He.glo_ok X G (c.fact 1 (f := .glo "is_between") rfl)
    F_is_between := fd_at (c.def_ 1 (d := d_is_between) rfl)
    m_is_tuple_of := He.glo_ok X G (c.fact 2 (f := .glo "is_tuple_of") rfl)
    F_is_tuple_of := fd_at (c.def_ 2 (d := d_is_tuple_of) rfl)
    m_is_ratio := He.glo_ok X G (c.fact 3 (f := .glo "is_ratio") rfl)
    F_is_ratio := fd_at (c.def_ 3 (d := d_is_ratio) rfl)
    m_is_row := He.glo_ok X G (c.fact 4 (f := .glo "is_row") rfl)
    F_is_row := fd_at (c.def_ 4 (d := d_is_row) rfl)
    m_ratio := He.glo_ok X G (c.fact 5 (f := .glo "ratio") rfl)
    F_ratio := fd_at (c.def_ 5 (d := d_ratio) rfl)
    m_plus := He.glo_ok X G (c.fact 6 (f := .glo "plus") rfl)
    F_plus := fd_at (c.def_ 6 (d := d_plus) rfl)
    m_times := He.glo_ok X G (c.fact 7 (f := .glo "times") rfl)
    F_times := fd_at (c.def_ 7 (d := d_times) rfl)
    m_is_less := He.glo_ok X G (c.fact 8 (f := .glo "is_less") rfl)
    F_is_less := fd_at (c.def_ 8 (d := d_is_less) rfl)
    m_total := He.glo_ok X G (c.fact 9 (f := .glo "total") rfl)
    F_total := fd_at (c.def_ 9 (d := d_total) rfl)
    m_dot := He.glo_ok X G (c.fact 10 (f := .glo "dot") rfl)
    F_dot := fd_at (c.def_ 10 (d := d_dot) rfl)
    m_noughts := He.glo_ok X G (c.fact 11 (f := .glo "noughts") rfl)
    F_noughts := fd_at (c.def_ 11 (d := d_noughts) rfl)
    m_are_chances := He.glo_ok X G (c.fact 12 (f := .glo "are_chances") rfl)
    F_are_chances := fd_at (c.def_ 12 (d := d_are_chances) rfl)
    m_is_deed := He.glo_ok X G (c.fact 13 (f := .glo "is_deed") rfl)
    F_is_deed := fd_at (c.def_ 13 (d := d_is_deed) rfl)
    m_is_stand := He.glo_ok X G (c.fact 14 (f := .glo "is_stand") rfl)
    F_is_stand := fd_at (c.def_ 14 (d := d_is_stand) rfl)
    m_is_share := He.glo_ok X G (c.fact 15 (f := .glo "is_share") rfl)
    F_is_share := fd_at (c.def_ 15 (d := d_is_share) rfl)
    m_is_house_by := He.glo_ok X G (c.fact 16 (f := .glo "is_house_by") rfl)
    F_is_house_by := fd_at (c.def_ 16 (d := d_is_house_by) rfl)
    m_check_house := He.glo_ok X G (c.fact 17 (f := .glo "check_house") rfl)
    F_check_house := fd_at (c.def_ 17 (d := d_check_house) rfl)
    m_check_start := He.glo_ok X G (c.fact 18 (f := .glo "check_start") rfl)
    F_check_start := fd_at (c.def_ 18 (d := d_check_start) rfl)
    m_check_weights := He.glo_ok X G (c.fact 19 (f := .glo "check_weights") rfl)
    F_check_weights := fd_at (c.def_ 19 (d := d_check_weights) rfl)
    m_check_between := He.glo_ok X G (c.fact 20 (f := .glo "check_between") rfl)
    F_check_between := fd_at (c.def_ 20 (d := d_check_between) rfl)
    m_deed_worth := He.glo_ok X G (c.fact 21 (f := .glo "deed_worth") rfl)
    F_deed_worth := fd_at (c.def_ 21 (d := d_deed_worth) rfl)
    m_first_best := He.glo_ok X G (c.fact 22 (f := .glo "first_best") rfl)
    F_first_best := fd_at (c.def_ 22 (d := d_first_best) rfl)
    m_timed_by := He.glo_ok X G (c.fact 23 (f := .glo "timed_by") rfl)
    F_timed_by := fd_at (c.def_ 23 (d := d_timed_by) rfl)
    m_marks_in := He.glo_ok X G (c.fact 24 (f := .glo "marks_in") rfl)
    F_marks_in := fd_at (c.def_ 24 (d := d_marks_in) rfl)
    m_stands_of := He.glo_ok X G (c.fact 25 (f := .glo "stands_of") rfl)
    F_stands_of := fd_at (c.def_ 25 (d := d_stands_of) rfl)
    m_deeds_of := He.glo_ok X G (c.fact 26 (f := .glo "deeds_of") rfl)
    F_deeds_of := fd_at (c.def_ 26 (d := d_deeds_of) rfl)
    m_are_marks := He.glo_ok X G (c.fact 27 (f := .glo "are_marks") rfl)
    F_are_marks := fd_at (c.def_ 27 (d := d_are_marks) rfl)
    m_is_dim_by := He.glo_ok X G (c.fact 28 (f := .glo "is_dim_by") rfl)
    F_is_dim_by := fd_at (c.def_ 28 (d := d_is_dim_by) rfl)
    m_hold_at := He.glo_ok X G (c.fact 29 (f := .glo "hold_at") rfl)
    F_hold_at := fd_at (c.def_ 29 (d := d_hold_at) rfl)
    m_holds_by := He.glo_ok X G (c.fact 30 (f := .glo "holds_by") rfl)
    F_holds_by := fd_at (c.def_ 30 (d := d_holds_by) rfl)
    m_behind_by := He.glo_ok X G (c.fact 31 (f := .glo "behind_by") rfl)
    F_behind_by := fd_at (c.def_ 31 (d := d_behind_by) rfl)
    m_gains_from := He.glo_ok X G (c.fact 32 (f := .glo "gains_from") rfl)
    F_gains_from := fd_at (c.def_ 32 (d := d_gains_from) rfl)
    m_some_tree := He.glo_ok X G (c.fact 33 (f := .glo "some_tree") rfl)
    F_some_tree := fd_at (c.def_ 33 (d := d_some_tree) rfl)
    m_best_by := He.glo_ok X G (c.fact 34 (f := .glo "best_by") rfl)
    F_best_by := fd_at (c.def_ 34 (d := d_best_by) rfl)
    m_best_lookout_by := He.glo_ok X G (c.fact 35 (f := .glo "best_lookout_by") rfl)
    F_best_lookout_by := fd_at (c.def_ 35 (d := d_best_lookout_by) rfl)
    m_check_dim := He.glo_ok X G (c.fact 36 (f := .glo "check_dim") rfl)
    F_check_dim := fd_at (c.def_ 36 (d := d_check_dim) rfl)
    m_check_steps := He.glo_ok X G (c.fact 37 (f := .glo "check_steps") rfl)
    F_check_steps := fd_at (c.def_ 37 (d := d_check_steps) rfl)
    m_best_lookout := He.glo_ok X G (c.fact 38 (f := .glo "best_lookout") rfl)
    F_best_lookout := fd_at (c.def_ 38 (d := d_best_lookout) rfl)
    m_checked := He.glo_ok X G (c.fact 39 (f := .glo "checked") rfl)
    F_checked := fd_at (c.def_ 39 (d := d_checked) rfl)
    m_timed_worths := He.glo_ok X G (c.fact 40 (f := .glo "timed_worths") rfl)
    F_timed_worths := fd_at (c.def_ 40 (d := d_timed_worths) rfl)
    m_law_pot := He.glo_ok X G (c.fact 41 (f := .glo "_law_pot") rfl)
    F_law_pot := fd_at (c.def_ 41 (d := d_law_pot) rfl)
    m_law_take := He.glo_ok X G (c.fact 42 (f := .glo "_law_take") rfl)
    F_law_take := fd_at (c.def_ 42 (d := d_law_take) rfl)
    m_law_pick := He.glo_ok X G (c.fact 43 (f := .glo "_law_pick") rfl)
    F_law_pick := fd_at (c.def_ 43 (d := d_law_pick) rfl)
    m_law_shuffled := He.glo_ok X G (c.fact 44 (f := .glo "_law_shuffled") rfl)
    F_law_shuffled := fd_at (c.def_ 44 (d := d_law_shuffled) rfl)
    m_law_low := He.glo_ok X G (c.fact 45 (f := .glo "_law_low") rfl)
    F_law_low := fd_at (c.def_ 45 (d := d_law_low) rfl)
    m_law_plus := He.glo_ok X G (c.fact 46 (f := .glo "_law_plus") rfl)
    F_law_plus := fd_at (c.def_ 46 (d := d_law_plus) rfl)
    m_law_times := He.glo_ok X G (c.fact 47 (f := .glo "_law_times") rfl)
    F_law_times := fd_at (c.def_ 47 (d := d_law_times) rfl)
    m_law_below := He.glo_ok X G (c.fact 48 (f := .glo "_law_below") rfl)
    F_law_below := fd_at (c.def_ 48 (d := d_law_below) rfl)
    m_law_total := He.glo_ok X G (c.fact 49 (f := .glo "_law_total") rfl)
    F_law_total := fd_at (c.def_ 49 (d := d_law_total) rfl)
    m_law_dot := He.glo_ok X G (c.fact 50 (f := .glo "_law_dot") rfl)
    F_law_dot := fd_at (c.def_ 50 (d := d_law_dot) rfl)
    m_law_end := He.glo_ok X G (c.fact 51 (f := .glo "_law_end") rfl)
    F_law_end := fd_at (c.def_ 51 (d := d_law_end) rfl)
    m_law_share := He.glo_ok X G (c.fact 52 (f := .glo "_law_share") rfl)
    F_law_share := fd_at (c.def_ 52 (d := d_law_share) rfl)
    m_law_number := He.glo_ok X G (c.fact 53 (f := .glo "_law_number") rfl)
    F_law_number := fd_at (c.def_ 53 (d := d_law_number) rfl)
    m_law_gains := He.glo_ok X G (c.fact 54 (f := .glo "_law_gains") rfl)
    F_law_gains := fd_at (c.def_ 54 (d := d_law_gains) rfl)
    m_law_weights := He.glo_ok X G (c.fact 55 (f := .glo "_law_weights") rfl)
    F_law_weights := fd_at (c.def_ 55 (d := d_law_weights) rfl)
    m_law_lot := He.glo_ok X G (c.fact 56 (f := .glo "_law_lot") rfl)
    F_law_lot := fd_at (c.def_ 56 (d := d_law_lot) rfl)
    m_law_odds := He.glo_ok X G (c.fact 57 (f := .glo "_law_odds") rfl)
    F_law_odds := fd_at (c.def_ 57 (d := d_law_odds) rfl)
    m_law_is_whole := He.glo_ok X G (c.fact 58 (f := .glo "_law_is_whole") rfl)
    F_law_is_whole := fd_at (c.def_ 58 (d := d_law_is_whole) rfl)
    m_law_is_fraction := He.glo_ok X G (c.fact 59 (f := .glo "_law_is_fraction") rfl)
    F_law_is_fraction := fd_at (c.def_ 59 (d := d_law_is_fraction) rfl)
    m_law_chances := He.glo_ok X G (c.fact 60 (f := .glo "_law_chances") rfl)
    F_law_chances := fd_at (c.def_ 60 (d := d_law_chances) rfl)
    m_law_marks := He.glo_ok X G (c.fact 61 (f := .glo "_law_marks") rfl)
    F_law_marks := fd_at (c.def_ 61 (d := d_law_marks) rfl)
    m_law_dim := He.glo_ok X G (c.fact 62 (f := .glo "_law_dim") rfl)
    F_law_dim := fd_at (c.def_ 62 (d := d_law_dim) rfl)
    m_law_deeds := He.glo_ok X G (c.fact 63 (f := .glo "_law_deeds") rfl)
    F_law_deeds := fd_at (c.def_ 63 (d := d_law_deeds) rfl)
    m_law_few := He.glo_ok X G (c.fact 64 (f := .glo "_law_few") rfl)
    F_law_few := fd_at (c.def_ 64 (d := d_law_few) rfl)
    m_law_any_house := He.glo_ok X G (c.fact 65 (f := .glo "_law_any_house") rfl)
    F_law_any_house := fd_at (c.def_ 65 (d := d_law_any_house) rfl)
    m_law_timed := He.glo_ok X G (c.fact 66 (f := .glo "_law_timed") rfl)
    F_law_timed := fd_at (c.def_ 66 (d := d_law_timed) rfl)
    m_law_number_told := He.glo_ok X G (c.fact 67 (f := .glo "_law_number_told") rfl)
    F_law_number_told := fd_at (c.def_ 67 (d := d_law_number_told) rfl)
    m_law_other_sight := He.glo_ok X G (c.fact 68 (f := .glo "_law_other_sight") rfl)
    F_law_other_sight := fd_at (c.def_ 68 (d := d_law_other_sight) rfl)
    m_law_right := He.glo_ok X G (c.fact 69 (f := .glo "_law_right") rfl)
    F_law_right := fd_at (c.def_ 69 (d := d_law_right) rfl)
    m_law := He.glo_ok X G (c.fact 70 (f := .glo "law") rfl)
    F_law := fd_at (c.def_ 70 (d := d_law) rfl)
  }
theorem runK (w : World) : HandSHeadRun.RunEqI RR (PySem.W.view RR.prog [0, 96]) hookK obT 8000 looseL w := by
  unfold HandSHeadRun.RunEqI
  kernel_rfl
end K66

/-! LayK: data as it stands in the heap, and small steps of a reading (own work) -/
namespace K66
open PySem PySem.Spec PyProof.Rows L2
/-! ### tuples are kept -/
def TupO : HO → Prop
  | .tup _ => True
  | .frz _ (.tup _) => True
  | _ => False
def Kp (H H' : Hp) : Prop := ∀ a o, TupO o → H a = some o → H' a = some o
theorem Kp.refl (H : Hp) : Kp H H := fun _ _ _ h => h
theorem Kp.trans {H H1 H2 : Hp} (a : Kp H H1) (b : Kp H1 H2) : Kp H H2 := fun c o t h => b c o t (a c o t h)
theorem kp_same {H H' : Hp} (e : Same H H') : Kp H H' := fun a o _ h => e a _ h
theorem kp_upd {H : Hp} {a : Addr} {o u : HO} (h : H a = some o) (n : ¬ TupO o) : Kp H (upd H a u) := fun b v t q => by
  rw [upd_ne (fun z => by subst z; rw [h] at q; cases q; exact n t)]
  exact q
theorem same_new {H : Hp} {p : Addr} {o : HO} (h : H p = none) : Same H (upd H p o) := fun b u e => by
  rw [upd_ne (ne_of_none e h)]
  exact e
/-- a thing that H does not know may change -/
theorem Same.mut {H H' : Hp} {p : Addr} {o : HO} (e : Same H H') (h : H p = none) : Same H (upd H' p o) := fun b u q => by
  rw [upd_ne (ne_of_none q h)]
  exact e b u q
theorem same_none {H H' : Hp} {p : Addr} (e : Same H H') (h : H' p = none) : H p = none := e.free h
/-- a tuple at a, tracked or written -/
abbrev TupA (K : PySem.W.Frag) (H : Hp) (a : Addr) (xs : List V) : Prop := SqT K H a xs
section
variable {K : PySem.W.Frag} {H H' : Hp} {a : Addr} {xs : List V}
theorem TupA.sq (h : TupA K H a xs) : SqT K H a xs := h
theorem TupA.mono (k : Kp H H') (h : TupA K H a xs) : TupA K H' a xs := by
  rcases h with (h | ⟨o, h⟩) | h
  · exact .inl (.inl (k a _ trivial h))
  · exact .inl (.inr ⟨o, k a _ trivial h⟩)
  · exact .inr h
theorem TupA.of (h : H a = some (.tup xs)) : TupA K H a xs := SqT.of h
theorem TupA.frz {o : Obj} (h : H a = some (.frz o (.tup xs))) : TupA K H a xs := .inl (.inr ⟨o, h⟩)
end
/-! ### data -/
mutual
inductive Tp (K : PySem.W.Frag) (H : Hp) : V → PyData → Prop
  | non : Tp K H .non .none
  | bl (b : Bool) : Tp K H (.bl b) (.bool b)
  | int (i : Int) : Tp K H (.int i) (.int i)
  | tup {a : Addr} {xs : List V} {ds : List PyData} : TupA K H a xs → TpAll K H xs ds → Tp K H (.ref a) (.tuple ds)
inductive TpAll (K : PySem.W.Frag) (H : Hp) : List V → List PyData → Prop
  | nil : TpAll K H [] []
  | cons {v : V} {vs : List V} {d : PyData} {ds : List PyData} : Tp K H v d → TpAll K H vs ds → TpAll K H (v :: vs) (d :: ds)
end
section
variable {K : PySem.W.Frag} {H H' : Hp}
mutual
theorem Tp.mono (k : Kp H H') : ∀ {v : V} {d : PyData}, Tp K H v d → Tp K H' v d
  | _, _, .non => .non
  | _, _, .bl b => .bl b
  | _, _, .int i => .int i
  | _, _, .tup h t => .tup (h.mono k) (TpAll.mono k t)
theorem TpAll.mono (k : Kp H H') : ∀ {vs : List V} {ds : List PyData}, TpAll K H vs ds → TpAll K H' vs ds
  | _, _, .nil => .nil
  | _, _, .cons h t => .cons (Tp.mono k h) (TpAll.mono k t)
end
mutual
theorem Tp.dp : ∀ {v : V} {d : PyData}, Tp K H v d → Dp K H v d
  | _, _, .non => .non
  | _, _, .bl b => .bl b
  | _, _, .int i => .int i
  | _, _, .tup h t => .tup h.sq (TpAll.dp t)
theorem TpAll.dp : ∀ {vs : List V} {ds : List PyData}, TpAll K H vs ds → DpAll K H vs ds
  | _, _, .nil => .nil
  | _, _, .cons h t => .cons (Tp.dp h) (TpAll.dp t)
end
theorem TpAll.length : ∀ {vs : List V} {ds : List PyData}, TpAll K H vs ds → vs.length = ds.length
  | _, _, .nil => rfl
  | _, _, .cons _ t => congrArg Nat.succ (TpAll.length t)
theorem TpAll.get : ∀ {vs : List V} {ds : List PyData} {i : Nat} {v : V}, TpAll K H vs ds → vs[i]? = some v → ∃ d, ds[i]? = some d ∧ Tp K H v d
  | _, _, _, _, .nil, e => by simp at e
  | _, _, 0, _, .cons h _, e => by simp at e; subst e; exact ⟨_, rfl, h⟩
  | _, _, i + 1, _, .cons _ t, e => by
    obtain ⟨d, h1, h2⟩ := TpAll.get (i := i) t (by simpa using e)
    exact ⟨d, by simpa using h1, h2⟩
theorem TpAll.at : ∀ {vs : List V} {ds : List PyData} {i : Nat} {d : PyData}, TpAll K H vs ds → ds[i]? = some d → ∃ v, vs[i]? = some v ∧ Tp K H v d
  | _, _, _, _, .nil, e => by simp at e
  | _, _, 0, _, .cons h _, e => by simp at e; subst e; exact ⟨_, rfl, h⟩
  | _, _, i + 1, _, .cons _ t, e => by
    obtain ⟨d, h1, h2⟩ := TpAll.at (i := i) t (by simpa using e)
    exact ⟨d, by simpa using h1, h2⟩
theorem TpAll.app : ∀ {vs ws : List V} {ds es : List PyData}, TpAll K H vs ds → TpAll K H ws es → TpAll K H (vs ++ ws) (ds ++ es)
  | _, _, _, _, .nil, s => s
  | _, _, _, _, .cons h t, s => .cons h (TpAll.app t s)
theorem TpAll.one {v : V} {d : PyData} (h : Tp K H v d) : TpAll K H [v] [d] := .cons h .nil
theorem TpAll.take : ∀ {vs : List V} {ds : List PyData} (n : Nat), TpAll K H vs ds → TpAll K H (vs.take n) (ds.take n)
  | _, _, 0, _ => .nil
  | _, _, _ + 1, .nil => .nil
  | _, _, n + 1, .cons h t => .cons h (TpAll.take n t)
theorem TpAll.drop : ∀ {vs : List V} {ds : List PyData} (n : Nat), TpAll K H vs ds → TpAll K H (vs.drop n) (ds.drop n)
  | _, _, 0, h => h
  | _, _, _ + 1, .nil => .nil
  | _, _, n + 1, .cons _ t => TpAll.drop n t
theorem TpAll.set : ∀ {vs : List V} {ds : List PyData} {v : V} {d : PyData} (n : Nat), Tp K H v d → TpAll K H vs ds → TpAll K H (vs.set n v) (ds.set n d)
  | _, _, _, _, _, _, .nil => .nil
  | _, _, _, _, 0, h, .cons _ t => .cons h t
  | _, _, _, _, n + 1, h, .cons q t => .cons q (TpAll.set n h t)
theorem TpAll.rep {v : V} {d : PyData} (h : Tp K H v d) : ∀ n : Nat, TpAll K H (List.replicate n v) (List.replicate n d)
  | 0 => .nil
  | n + 1 => .cons h (TpAll.rep h n)
/-- item by item -/
theorem TpAll.of_get : ∀ {vs : List V} {ds : List PyData}, vs.length = ds.length → (∀ (i : Nat) v d, vs[i]? = some v → ds[i]? = some d → Tp K H v d) → TpAll K H vs ds
  | [], [], _, _ => .nil
  | [], _ :: _, h, _ => by cases h
  | _ :: _, [], h, _ => by cases h
  | v :: vs, d :: ds, h, g => .cons (g 0 v d rfl rfl) (TpAll.of_get (Nat.succ.inj h) fun i v d a b => g (i + 1) v d (by simpa using a) (by simpa using b))
end
/-! ### Lean's values as data -/
class Enc (α : Type) where
  enc : α → PyData
abbrev Is {α : Type} [Enc α] (K : PySem.W.Frag) (H : Hp) (v : V) (x : α) : Prop := Tp K H v (Enc.enc x)
abbrev IsL {α : Type} [Enc α] (K : PySem.W.Frag) (H : Hp) (vs : List V) (xs : List α) : Prop := TpAll K H vs (xs.map Enc.enc)
instance : Enc Int := ⟨.int⟩
instance : Enc Nat := ⟨fun n => .int n⟩
instance : Enc Bool := ⟨.bool⟩
instance : Enc Rat := ⟨fun q => .tuple [.int q.num, .int q.den]⟩
instance {α : Type} [Enc α] : Enc (List α) := ⟨fun xs => .tuple (xs.map Enc.enc)⟩
instance {α β : Type} [Enc α] [Enc β] : Enc (α × β) := ⟨fun p => .tuple [Enc.enc p.1, Enc.enc p.2]⟩
abbrev Ch := List (Nat × Rat)
abbrev Deed := Ch × List Rat
structure House where
  sh : Rat
  pays : Nat
  st : List (List Deed)
  deriving Inhabited
instance : Enc House := ⟨fun h => .tuple [Enc.enc h.sh, .int h.pays, Enc.enc h.st]⟩
abbrev Dim := House × List Nat
section
variable {K : PySem.W.Frag} {H : Hp} {v : V}
theorem is_int {i : Int} (h : Is K H v i) : v = .int i := by
  cases h
  rfl
theorem is_nat {i : Nat} (h : Is K H v i) : v = .int i := by
  cases h
  rfl
theorem is_bl {b : Bool} (h : Is K H v b) : v = .bl b := by
  cases h
  rfl
theorem is_rat {q : Rat} (h : Is K H v q) : ∃ a, v = .ref a ∧ TupA K H a [.int q.num, .int q.den] := by
  cases h with
  | tup h t =>
    cases t with
    | cons t1 t =>
      cases t with
      | cons t2 t =>
        cases t
        cases t1
        cases t2
        exact ⟨_, rfl, h⟩
theorem is_pair {α β : Type} [Enc α] [Enc β] {p : α × β} (h : Is K H v p) : ∃ a x y, v = .ref a ∧ TupA K H a [x, y] ∧ Is K H x p.1 ∧ Is K H y p.2 := by
  cases h with
  | tup h t =>
    cases t with
    | cons t1 t =>
      cases t with
      | cons t2 t =>
        cases t
        exact ⟨_, _, _, rfl, h, t1, t2⟩
theorem is_list {α : Type} [Enc α] {xs : List α} (h : Is K H v xs) : ∃ a vs, v = .ref a ∧ TupA K H a vs ∧ IsL K H vs xs := by
  cases h with
  | tup h t => exact ⟨_, _, rfl, h, t⟩
theorem is_house {h : House} (q : Is K H v h) : ∃ a x y z, v = .ref a ∧ TupA K H a [x, y, z] ∧ Is K H x h.sh ∧ Is K H y h.pays ∧ Is K H z h.st := by
  cases q with
  | tup q t =>
    cases t with
    | cons t1 t =>
      cases t with
      | cons t2 t =>
        cases t with
        | cons t3 t =>
          cases t
          exact ⟨_, _, _, _, rfl, q, t1, t2, t3⟩
theorem is_rat_mk {q : Rat} {a : Addr} (h : TupA K H a [.int q.num, .int q.den]) : Is K H (.ref a) q := .tup h (.cons (.int _) (.cons (.int _) .nil))
theorem is_pair_mk {α β : Type} [Enc α] [Enc β] {p : α × β} {a : Addr} {x y : V} (h : TupA K H a [x, y]) (h1 : Is K H x p.1) (h2 : Is K H y p.2) : Is K H (.ref a) p := .tup h (.cons h1 (.cons h2 .nil))
theorem is_list_mk {α : Type} [Enc α] {xs : List α} {a : Addr} {vs : List V} (h : TupA K H a vs) (t : IsL K H vs xs) : Is K H (.ref a) xs := .tup h t
theorem is_house_mk {h : House} {a : Addr} {x y z : V} (q : TupA K H a [x, y, z]) (h1 : Is K H x h.sh) (h2 : Is K H y h.pays) (h3 : Is K H z h.st) : Is K H (.ref a) h := .tup q (.cons h1 (.cons h2 (.cons h3 .nil)))
theorem isl_len {α : Type} [Enc α] {vs : List V} {xs : List α} (h : IsL K H vs xs) : vs.length = xs.length := by
  have := TpAll.length h
  rwa [List.length_map] at this
theorem isl_get {α : Type} [Enc α] {vs : List V} {xs : List α} {i : Nat} {v : V} (h : IsL K H vs xs) (e : vs[i]? = some v) : ∃ x, xs[i]? = some x ∧ Is K H v x := by
  obtain ⟨d, h1, h2⟩ := TpAll.get h e
  rw [List.getElem?_map] at h1
  cases q : xs[i]? with
  | none => rw [q] at h1; cases h1
  | some x => rw [q] at h1; cases h1; exact ⟨x, rfl, h2⟩
theorem isl_at {α : Type} [Enc α] {vs : List V} {xs : List α} {i : Nat} {x : α} (h : IsL K H vs xs) (e : xs[i]? = some x) : ∃ v, vs[i]? = some v ∧ Is K H v x := by
  exact TpAll.at h (by rw [List.getElem?_map, e]; rfl)
theorem isl_app {α : Type} [Enc α] {vs ws : List V} {xs ys : List α} (h : IsL K H vs xs) (g : IsL K H ws ys) : IsL K H (vs ++ ws) (xs ++ ys) := by
  show TpAll K H _ ((xs ++ ys).map Enc.enc)
  rw [List.map_append]
  exact TpAll.app h g
theorem isl_one {α : Type} [Enc α] {v : V} {x : α} (h : Is K H v x) : IsL K H [v] [x] := .cons h .nil
theorem isl_nil {α : Type} [Enc α] : IsL K H [] ([] : List α) := .nil
theorem isl_ints {ns : List Int} {vs : List V} (h : IsL K H vs ns) : vs = ns.map V.int := by
  refine List.ext_getElem? fun i => ?_
  have hl := isl_len h
  by_cases hi : i < vs.length
  · have e := List.getElem?_eq_getElem hi
    obtain ⟨x, e2, q⟩ := isl_get h e
    rw [e, List.getElem?_map, e2, is_int q]
    rfl
  · rw [List.getElem?_eq_none (by omega), List.getElem?_eq_none (by rw [List.length_map]; omega)]
theorem isl_nats {ns : List Nat} {vs : List V} (h : IsL K H vs ns) : vs = (ns.map fun n : Nat => (n : Int)).map V.int := by
  refine List.ext_getElem? fun i => ?_
  have hl := isl_len h
  by_cases hi : i < vs.length
  · have e := List.getElem?_eq_getElem hi
    obtain ⟨x, e2, q⟩ := isl_get h e
    rw [e, List.map_map, List.getElem?_map, e2, is_nat q]
    rfl
  · rw [List.getElem?_eq_none (by omega), List.getElem?_eq_none (by rw [List.length_map, List.length_map]; omega)]
theorem isl_bls {bs : List Bool} {vs : List V} (h : IsL K H vs bs) : vs = bs.map V.bl := by
  refine List.ext_getElem? fun i => ?_
  have hl := isl_len h
  by_cases hi : i < vs.length
  · have e := List.getElem?_eq_getElem hi
    obtain ⟨x, e2, q⟩ := isl_get h e
    rw [e, List.getElem?_map, e2, is_bl q]
    rfl
  · rw [List.getElem?_eq_none (by omega), List.getElem?_eq_none (by rw [List.length_map]; omega)]
theorem ints_isl : ∀ ns : List Int, IsL K H (ns.map V.int) ns
  | [] => .nil
  | n :: ns => .cons (.int n) (ints_isl ns)
/-- from the items of a function -/
theorem isl_of {α : Type} [Enc α] {vs : List V} {xs : List α} (hl : vs.length = xs.length) (g : ∀ (i : Nat) v x, vs[i]? = some v → xs[i]? = some x → Is K H v x) : IsL K H vs xs := by
  refine TpAll.of_get (by rw [List.length_map]; exact hl) fun i v d e1 e2 => ?_
  rw [List.getElem?_map] at e2
  cases q : xs[i]? with
  | none => rw [q] at e2; cases e2
  | some x => rw [q] at e2; cases e2; exact g i v x e1 q
end
/-! ### the steps of a reading -/
section
variable {K : PySem.W.Frag} {σ : L2.St} {H : Hp} {Q : VK} {D : Ends} {te ta tb : TE} {tu tv : TS} {tt tq : TT} {v x y : V}
theorem x_seq (h : tu { D with nx := tv D } σ H) : tSeq tu tv D σ H := h
theorem x_ret (h : te σ H D.rt) : tRet te D σ H := h
theorem x_asg {g : TG} (h : te σ H fun x H1 => g x σ H1 D.nx) : tAsg te g D σ H := h
theorem x_ifs (h : tt σ H fun b H1 => if b = true then tu D σ H1 else tv D σ H1) : tIfS tt tu tv D σ H := h
theorem x_drop (h : te σ H fun _ H1 => D.nx σ H1) : tDrop te D σ H := h
theorem x_next (h : D.nx σ H) : tNext D σ H := h
theorem x_call {sp : Sp} {dvs : List V} {E : XK} {t : TA} (h : t σ H fun vs H1 => sp (vs ++ dvs) H1 Q E) : tCall sp dvs E t σ H Q := h
theorem x_cb {r : List V → Hp → VK → Prop} {t : TA} (h : t σ H fun vs H1 => r vs H1 Q) : tCB r t σ H Q := h
theorem x_cons {tr : TA} {R : List V → Hp → Prop} (h : te σ H fun x H1 => tr σ H1 fun xs H2 => R (x :: xs) H2) : tCons te tr σ H R := h
theorem x_nil {R : List V → Hp → Prop} (h : R [] H) : tNil σ H R := h
theorem x_op {r : R2} (h : ta σ H fun x H1 => tb σ H1 fun y H2 => r x y H2 Q) : tOp r ta tb σ H Q := h
theorem x_un {r : V → Hp → VK → Prop} (h : ta σ H fun x H1 => r x H1 Q) : tUn r ta σ H Q := h
theorem x_var {i : Nat} (e : σ[i]? = some (some v)) (h : Q v H) : tVar i σ H Q := ⟨v, e, h⟩
theorem x_c (h : Q v H) : tC v σ H Q := h
theorem x_i0 {g : Int → Int → V} {i j : Int} (h : Q (g i j) H) : rI0 g (.int i) (.int j) H Q := ⟨i, j, rfl, rfl, h⟩
theorem x_i {C : Int → Int → Prop} {g : Int → Int → V} {i j : Int} (c : C i j) (h : Q (g i j) H) : rI C g (.int i) (.int j) H Q := ⟨i, j, rfl, rfl, c, h⟩
theorem x_u {g : Int → V} {i : Int} (h : Q (g i) H) : rU g (.int i) H Q := ⟨i, rfl, h⟩
theorem x_eqI {i j : Int} (h : Q (.bl (decide (i = j))) H) : rEq (.int i) (.int j) H Q := ⟨rfl, by
  have e : decide (V.int i = V.int j) = decide (i = j) := by
    by_cases q : i = j
    · subst q; simp
    · simp [q]
  rw [e]
  exact h⟩
theorem x_neI {i j : Int} (h : Q (.bl (!decide (i = j))) H) : rNe (.int i) (.int j) H Q := ⟨rfl, by
  have e : decide (V.int i = V.int j) = decide (i = j) := by
    by_cases q : i = j
    · subst q; simp
    · simp [q]
  rw [e]
  exact h⟩
theorem x_test {R : Bool → Hp → Prop} (h : te σ H fun x H' => ∃ k, x = .bl k ∧ R k H') : tTest te σ H R := h
theorem x_tb {R : Bool → Hp → Prop} (h : te σ H fun x H' => ∃ k, x = .bl k ∧ R k H') : tB te σ H R := h
theorem x_bl {k : Bool} {R : Bool → Prop} (h : R k) : ∃ k', V.bl k = .bl k' ∧ R k' := ⟨k, rfl, h⟩
theorem x_t {c : Bool} {A B : Prop} (e : c = true) (h : A) : if c = true then A else B := by rw [if_pos e]; exact h
theorem x_f {c : Bool} {A B : Prop} (e : c = false) (h : B) : if c = true then A else B := by rw [if_neg (by rw [e]; decide)]; exact h
theorem x_2 {c : Bool} {A B : Prop} (h1 : c = true → A) (h2 : c = false → B) : if c = true then A else B := by
  cases c
  · exact x_f rfl (h2 rfl)
  · exact x_t rfl (h1 rfl)
theorem x_name {i : Nat} {R : L2.St → Hp → Prop} (h : R (σ.set i (some v)) H) : gName i v σ H R := h
theorem x_for {wi : TI} {g : TG} (h : wi σ H fun J H1 => ∃ W : Nat → Nat → L2.St → Hp → Prop, (∃ m, W 0 m σ H1) ∧ ∀ i m σ' H', W i m σ' H' →
    (J.stop i H' ∧ D.nx σ' H') ∨ (J.go i H' ∧ ∃ N : L2.St → Hp → Prop, (∀ σ2 H2, N σ2 H2 → ∃ m', m' < m ∧ W (i + 1) m' σ2 H2) ∧ ∀ x H2, J.yld i H' x H2 → g x σ' H2 fun σ3 H3 => tu { D with nx := N, ct := N, bk := D.nx } σ3 H3)) : tFor wi g tu D σ H := h
theorem x_par {i j : Nat} {t : TA} (h : t σ H fun vs H1 => ∃ v w, vs = [v, w] ∧ D.nx ((σ.set i (some v)).set j (some w)) H1) : tPar i j t D σ H := h
theorem x_par3 {i j l : Nat} {t : TA} (h : t σ H fun vs H1 => ∃ u v w, vs = [u, v, w] ∧ D.nx (((σ.set i (some u)).set j (some v)).set l (some w)) H1) : tPar3 i j l t D σ H := h
theorem x_two {R : V → V → Prop} (h : R x y) : ∃ v w, ([x, y] : List V) = [v, w] ∧ R v w := ⟨x, y, rfl, h⟩
theorem x_three {z : V} {R : V → V → V → Prop} (h : R x y z) : ∃ u v w, ([x, y, z] : List V) = [u, v, w] ∧ R u v w := ⟨x, y, z, rfl, h⟩
theorem x_lcd {wi : TI} {g : TG} {vs : List Nat} (h : wi σ H fun J H1 => ∀ D, H1 D = none → ∃ W : Nat → Nat → Hp → Prop, (∃ m, W 0 m (upd H1 D (.lst []))) ∧ ∀ i m H, W i m H →
    (J.stop i H ∧ Q (.ref D) H) ∨ (J.go i H ∧ ∃ Nx : Hp → Prop, (∀ H', Nx H' → ∃ m', m' < m ∧ W (i + 1) m' H') ∧ ∀ x H', J.yld i H x H' → g x (wipe σ vs) H' fun σ2 H2 => wipe σ2 vs = wipe σ vs ∧ tt σ2 H2 fun b H3 =>
      if b = true then te σ2 H3 fun y H4 => ∃ acc, H4 D = some (.lst acc) ∧ acc.length < sizeLine ∧ Nx (upd H4 D (.lst (acc ++ [y]))) else Nx H3)) : tLc wi g tt te vs σ H Q := h
theorem x_yes {R : Bool → Hp → Prop} (h : R true H) : tYes σ H R := h
theorem x_gcd {i j : Int} (h : Q (.int ((Nat.gcd i.natAbs j.natAbs : Nat) : Int)) H) : rGcd [.int i, .int j] H Q := ⟨i, j, rfl, h⟩
theorem x_not {R : Bool → Hp → Prop} (h : tt σ H fun c H1 => R (!c) H1) : tNot tt σ H R := h
theorem x_and {R : Bool → Hp → Prop} (h : tt σ H fun c H1 => if c = true then tq σ H1 R else R false H1) : tAnd tt tq σ H R := h
theorem x_or {R : Bool → Hp → Prop} (h : tt σ H fun c H1 => if c = true then R true H1 else tq σ H1 R) : tOr tt tq σ H R := h
theorem x_andV (h : ta σ H fun x H1 => ∃ c, x = .bl c ∧ if c = true then tb σ H1 Q else Q (.bl false) H1) : tAndV ta tb σ H Q := h
theorem x_orV (h : ta σ H fun x H1 => ∃ c, x = .bl c ∧ if c = true then Q (.bl true) H1 else tb σ H1 Q) : tOrV ta tb σ H Q := h
theorem x_notV (h : ta σ H fun x H1 => ∃ c, x = .bl c ∧ Q (.bl (!c)) H1) : tNotV ta σ H Q := h
theorem x_if (h : tt σ H fun c H1 => if c = true then ta σ H1 Q else tb σ H1 Q) : tIf tt ta tb σ H Q := h
theorem x_tup {t : TA} (h : t σ H fun xs H1 => xs.length ≤ sizeLine ∧ ∀ p, H1 p = none → Q (.ref p) (upd H1 p (.tup xs))) : tTup t σ H Q := h
theorem x_lst {t : TA} (h : t σ H fun xs H1 => xs.length ≤ sizeLine ∧ ∀ p, H1 p = none → Q (.ref p) (upd H1 p (.lst xs))) : tLst t σ H Q := h
theorem x_num {q : Rat} (h : Is K H v q) (k : Q (.int q.num) H) : rIxT K v (.int 0) H Q := by
  obtain ⟨a, rfl, t⟩ := is_rat h
  exact ⟨a, _, 0, _, rfl, rfl, t.sq, atI_nat (j := 0) rfl, k⟩
theorem x_den {q : Rat} (h : Is K H v q) (k : Q (.int q.den) H) : rIxT K v (.int 1) H Q := by
  obtain ⟨a, rfl, t⟩ := is_rat h
  exact ⟨a, _, 1, _, rfl, rfl, t.sq, atI_nat (j := 1) rfl, k⟩
theorem x_fst {α β : Type} [Enc α] [Enc β] {p : α × β} (h : Is K H v p) (k : ∀ x, Is K H x p.1 → Q x H) : rIxT K v (.int 0) H Q := by
  obtain ⟨a, x, y, rfl, t, q1, q2⟩ := is_pair h
  exact ⟨a, _, 0, _, rfl, rfl, t.sq, atI_nat (j := 0) rfl, k x q1⟩
theorem x_snd {α β : Type} [Enc α] [Enc β] {p : α × β} (h : Is K H v p) (k : ∀ x, Is K H x p.2 → Q x H) : rIxT K v (.int 1) H Q := by
  obtain ⟨a, x, y, rfl, t, q1, q2⟩ := is_pair h
  exact ⟨a, _, 1, _, rfl, rfl, t.sq, atI_nat (j := 1) rfl, k y q2⟩
theorem x_sh {h : House} (q : Is K H v h) (k : ∀ x, Is K H x h.sh → Q x H) : rIxT K v (.int 0) H Q := by
  obtain ⟨a, x, y, z, rfl, t, q1, q2, q3⟩ := is_house q
  exact ⟨a, _, 0, _, rfl, rfl, t.sq, atI_nat (j := 0) rfl, k x q1⟩
theorem x_pays {h : House} (q : Is K H v h) (k : Q (.int h.pays) H) : rIxT K v (.int 1) H Q := by
  obtain ⟨a, x, y, z, rfl, t, q1, q2, q3⟩ := is_house q
  rw [is_nat q2] at t
  exact ⟨a, _, 1, _, rfl, rfl, t.sq, atI_nat (j := 1) rfl, k⟩
theorem x_st {h : House} (q : Is K H v h) (k : ∀ x, Is K H x h.st → Q x H) : rIxT K v (.int 2) H Q := by
  obtain ⟨a, x, y, z, rfl, t, q1, q2, q3⟩ := is_house q
  exact ⟨a, _, 2, _, rfl, rfl, t.sq, atI_nat (j := 2) rfl, k z q3⟩
/-- the i-th item -/
theorem x_at {α : Type} [Enc α] {xs : List α} {i : Nat} {x : α} (h : Is K H v xs) (e : xs[i]? = some x) (k : ∀ u, Is K H u x → Q u H) : rIxT K v (.int (i : Int)) H Q := by
  obtain ⟨a, vs, rfl, t, hl⟩ := is_list h
  obtain ⟨u, e2, q⟩ := isl_at hl e
  exact ⟨a, vs, i, u, rfl, rfl, t.sq, atI_nat e2, k u q⟩
theorem x_len {α : Type} [Enc α] {xs : List α} (h : Is K H v xs) (k : Q (.int (xs.length : Int)) H) : kLen K [v] H Q := by
  obtain ⟨a, vs, rfl, t, hl⟩ := is_list h
  rw [← isl_len hl] at k
  exact ⟨a, vs, rfl, .inr t.sq, k⟩
theorem x_kl {vs : List V} (h : ∃ p ys, vs = [.ref p] ∧ (SqL K H p ys ∨ SqT K H p ys) ∧ Q (.int ys.length) H) : kLen K vs H Q := h
theorem x_kt {vs : List V} (h : ∃ p ys, vs = [.ref p] ∧ ((SqL K H p ys ∧ ∀ l o, H l = none → o.cls = .type "tuple" → o.dict = none → Q (.ref l) (upd H l (.frz o (.tup ys)))) ∨ (SqT K H p ys ∧ Q (.ref p) H))) : kTup K vs H Q := h
theorem x_isiI {i : Int} (h : Q (.bl true) H) : rIsi K [.int i, .ty "int"] H Q := ⟨_, _, _, _, true, rfl, .ty _, .base (.int i), kit_ty (by decide +kernel), h⟩
theorem x_isiB {i : Int} (h : Q (.bl false) H) : rIsi K [.int i, .ty "bool"] H Q := ⟨_, _, _, _, false, rfl, .ty _, .base (.int i), kit_ty (by decide +kernel), h⟩
theorem x_isiT {a : Addr} {us : List V} (t : TupA K H a us) (h : Q (.bl true) H) : rIsi K [.ref a, .ty "tuple"] H Q := by
  refine ⟨_, _, .type "tuple", _, true, rfl, .ty _, ?_, kit_ty (by decide +kernel), h⟩
  rcases t with (t | ⟨o, t⟩) | ⟨o, its, n, e, c, _⟩
  · exact .base (.tup t)
  · exact .fTuple t
  · exact .kTuple e c
theorem x_chain {r r' : R2} {tc : TE} (h : ta σ H fun x H1 => tb σ H1 fun y H2 => r x y H2 fun z H3 => ∃ k, z = .bl k ∧ (if k = true then tc σ H3 fun w' H4 => r' y w' H4 Q else Q (.bl false) H3)) : tChain r r' ta tb tc σ H Q := h
theorem rat_eqv (p q : Rat) : PyData.eqv (Enc.enc p) (Enc.enc q) = decide (p = q) := by
  show PyData.eqv (.tuple [.int p.num, .int p.den]) (.tuple [.int q.num, .int q.den]) = _
  by_cases e : p = q
  · subst e
    simp [PyData.eqv, PyData.eqvAll]
  · rw [decide_eq_false e]
    have : ¬ (p.num = q.num ∧ p.den = q.den) := fun z => e (Rat.ext z.1 z.2)
    simp only [PyData.eqv, PyData.eqvAll, Bool.and_true, Bool.and_eq_false_iff, beq_eq_false_iff_ne, ne_eq]
    by_cases z : p.num = q.num
    · right
      intro y
      exact this ⟨z, by omega⟩
    · exact .inl z
theorem rat_shaped (p : Rat) : SeqAt.shaped (Enc.enc p) = true := rfl
theorem x_eqR {p q : Rat} (h1 : Is K H x p) (h2 : Is K H y q) (h : Q (.bl (decide (p = q))) H) : rEqD K x y H Q := ⟨_, _, Tp.dp h1, Tp.dp h2, rat_shaped p, rat_shaped q, by rw [rat_eqv]; exact h⟩
theorem x_neR {p q : Rat} (h1 : Is K H x p) (h2 : Is K H y q) (h : Q (.bl (!decide (p = q))) H) : rNeD K x y H Q := ⟨_, _, Tp.dp h1, Tp.dp h2, rat_shaped p, rat_shaped q, by rw [rat_eqv]; exact h⟩
theorem x_all {bs : List Bool} {a : Addr} {us : List V} (h : H a = some (.lst us)) (l : IsL K H us bs) (q : Q (.bl (bs.all id)) H) : rAll K [.ref a] H Q := ⟨a, bs, rfl, by rw [← isl_bls l]; exact SqL.of h, q⟩
theorem x_any {bs : List Bool} {a : Addr} {us : List V} (h : H a = some (.lst us)) (l : IsL K H us bs) (q : Q (.bl (bs.any id)) H) : rAny K [.ref a] H Q := ⟨a, bs, rfl, by rw [← isl_bls l]; exact SqL.of h, q⟩
theorem all_true {α : Type} (l : List α) : (l.map fun _ => true).all id = true := by simp
theorem any_false {α : Type} (l : List α) : (l.map fun _ => false).any id = false := by simp
theorem x_sl {r : V → Option Int → Option Int → Hp → VK → Prop} {tl th : TO} (h : te σ H fun x H1 => tl σ H1 fun l H2 => th σ H2 fun u H3 => r x l u H3 Q) : tSl r te tl th σ H Q := h
theorem x_part {R : Option Int → Hp → Prop} (h : te σ H fun x H1 => ∃ i, x = .int i ∧ R (some i) H1) : tPart te σ H R := h
theorem x_nopart {R : Option Int → Hp → Prop} (h : R none H) : tNoPart σ H R := h
theorem x_bm {nm : String} {to : TE} {t : TA} {r : V → List V → Hp → VK → Prop} (h : to σ H fun x H1 => tyV K nm x H1 ∧ t σ H1 fun xs H2 => r x xs H2 Q) : tBM K nm r to t σ H Q := h
theorem x_tix {to : TE} {t : TA} (h : to σ H fun x H1 => (∃ p o us, x = .ref p ∧ H1 p = some (.frz o (.tup us)) ∧ o.cls = .type "tuple" ∧ o.dict = none) ∧ t σ H1 fun vs H2 => rTupIx K x vs H2 Q) : tTix K to t σ H Q := h
theorem x_isint {i : Int} {R : Int → Prop} (h : R i) : ∃ j, V.int i = .int j ∧ R j := ⟨i, rfl, h⟩
theorem cut_lo (xs : List V) (k : Nat) (h : k ≤ xs.length) : cutV xs (some (k : Int)) none = xs.drop k := by
  unfold cutV
  rw [HT.sIx_nat, HT.sIx_none, Nat.min_eq_left h]
  exact List.take_of_length_le (by rw [List.length_drop]; omega)
theorem cut_hi (xs : List V) (k : Nat) : cutV xs none (some (k : Int)) = xs.take k := by
  unfold cutV
  rw [HT.sIx_nat, HT.sIx_none]
  show List.take (min k xs.length - 0) (xs.drop 0) = xs.take k
  rw [Nat.sub_zero, List.drop_zero]
  by_cases h : k ≤ xs.length
  · rw [Nat.min_eq_left h]
  · rw [Nat.min_eq_right (by omega), List.take_of_length_le (Nat.le_refl _), List.take_of_length_le (by omega)]
theorem num_pos_of {q : Rat} (h : 0 < q) : 0 < q.num := by
  have := (Rat.lt_iff 0 q).mp h
  have e1 : (0 : Rat).num = 0 := rfl
  have e2 : (0 : Rat).den = 1 := rfl
  rw [e1, e2] at this
  omega
theorem x_ix0 {a : Addr} {us : List V} (t : TupA K H a us) (e : us[0]? = some v) (k : Q v H) : rIxT K (.ref a) (.int 0) H Q := ⟨a, us, 0, v, rfl, rfl, t.sq, atI_nat (j := 0) e, k⟩
theorem x_ix1 {a : Addr} {us : List V} (t : TupA K H a us) (e : us[1]? = some v) (k : Q v H) : rIxT K (.ref a) (.int 1) H Q := ⟨a, us, 1, v, rfl, rfl, t.sq, atI_nat (j := 1) e, k⟩
theorem x_ix2 {a : Addr} {us : List V} (t : TupA K H a us) (e : us[2]? = some v) (k : Q v H) : rIxT K (.ref a) (.int 2) H Q := ⟨a, us, 2, v, rfl, rfl, t.sq, atI_nat (j := 2) e, k⟩
theorem x_lenT {a : Addr} {us : List V} (t : TupA K H a us) (k : Q (.int (us.length : Int)) H) : kLen K [.ref a] H Q := ⟨a, us, rfl, .inr t.sq, k⟩
theorem x_lenL {vs : List V} {p : Addr} (h : H p = some (.lst vs)) (k : Q (.int (vs.length : Int)) H) : kLen K [.ref p] H Q := ⟨p, vs, rfl, .inl (SqL.of h), k⟩
/-- a new pair of ints -/
theorem x_new2 {i j : Int} (k : ∀ p, H p = none → Q (.ref p) (upd H p (.tup [.int i, .int j]))) : ([.int i, .int j] : List V).length ≤ sizeLine ∧ ∀ p, H p = none → Q (.ref p) (upd H p (.tup [.int i, .int j])) := ⟨by show 2 ≤ sizeLine; decide, k⟩
end

/-! ### constants -/
section
variable {K : PySem.W.Frag} {mg : Str → Option Value} {H H' : Hp}
theorem tupA_of {a : Addr} {xs : List V} (h : ∀ H, SqT K H a xs) (H : Hp) : TupA K H a xs := by
  exact h H
theorem zero_is (T : Tx K mg) (H : Hp) : Is K H (.ref (He.ga K "ZERO")) (0 : Rat) := is_rat_mk (tupA_of T.t_ZERO H)
theorem one_is (T : Tx K mg) (H : Hp) : Is K H (.ref (He.ga K "ONE")) (1 : Rat) := is_rat_mk (tupA_of (fun H => He.tupB_ok T.w_ONE H) H)
theorem sqx_same {t : Bool} {a : Addr} {us : List V} (e : Same H H') (h : SqX K t H a us) : SqX K t H' a us := by
  cases t
  · exact Same.seq e h
  · rcases h with (h | ⟨o, h⟩) | h
    · exact .inl (.inl (e _ _ h))
    · exact .inl (.inr ⟨o, e _ _ h⟩)
    · exact .inr h
theorem TupA.sqx {a : Addr} {xs : List V} (h : TupA K H a xs) : SqX K true H a xs := h.sq
end
/-! ### sums -/
def rsum (l : List Rat) : Rat := l.foldl (fun a b => a + b) 0
theorem rsum_snoc (l : List Rat) (x : Rat) : rsum (l ++ [x]) = rsum l + x := by
  unfold rsum
  rw [List.foldl_append]
  rfl
theorem rsum_take {l : List Rat} {i : Nat} {x : Rat} (h : l[i]? = some x) : rsum (l.take (i + 1)) = rsum (l.take i) + x := by
  rw [List.take_add_one, h]
  exact rsum_snoc _ _
theorem bd_rsum {D N : Nat} (hD : 0 < D) : ∀ l : List Rat, (∀ x ∈ l, Bd D N x) → Bd D (l.length * N) (rsum l) := fun l => by
  have gen : ∀ (l : List Rat) (a : Rat) (M : Nat), Bd D M a → (∀ x ∈ l, Bd D N x) → Bd D (M + l.length * N) (l.foldl (fun a b => a + b) a) := by
    intro l
    induction l with
    | nil => intro a M h _; exact h.mono (Nat.le_add_right _ _)
    | cons x r ih =>
      intro a M h hx
      have := ih (a + x) (M + N) (h.add (hx x (by simp))) fun y hy => hx y (by simp [hy])
      refine this.mono (Nat.le_of_eq ?_)
      rw [List.length_cons, Nat.succ_mul]
      omega
  intro h
  have := gen l 0 0 (Bd.zero hD 0) h
  rwa [Nat.zero_add] at this
structure SumOk (l : List Rat) : Prop where
  ex : ∃ D N, (0 < D ∧ D < 2 ^ 3000) ∧ (l.length * N < 2 ^ 3000 ∧ N < 2 ^ 3000) ∧ ∀ x ∈ l, Bd D N x
theorem SumOk.item {l : List Rat} (h : SumOk l) {x : Rat} (hx : x ∈ l) : Sz x := by
  obtain ⟨D, N, a, b, c⟩ := h.ex
  exact (c x hx).sz a.2 b.2
theorem SumOk.part {l : List Rat} (h : SumOk l) (i : Nat) : Sz (rsum (l.take i)) := by
  obtain ⟨D, N, a, b, c⟩ := h.ex
  refine (bd_rsum a.1 (l.take i) fun x hx => c x (List.mem_of_mem_take hx)).sz a.2 (Nat.lt_of_le_of_lt ?_ b.1)
  exact Nat.mul_le_mul_right _ (by rw [List.length_take]; exact Nat.min_le_right _ _)
/-! ### walks -/
section
variable {K : PySem.W.Frag} {σ : L2.St} {H H1 : Hp} {Q : VK} {v x y : V} {a : Addr}
theorem x_gpair {i j : Nat} {R : L2.St → Hp → Prop} (t : TupA K H a [x, y]) (k : R ((σ.set i (some x)).set j (some y)) H) : gTup K 2 (gCons (gName i) (gCons (gName j) gNil)) (.ref a) σ H R :=
  ⟨a, [x, y], rfl, t.sq, rfl, x, [y], rfl, y, [], rfl, rfl, k⟩
def ItS (K : PySem.W.Frag) : Bool → Addr → It
  | true => Itt K
  | false => Itl K
def iSq (K : PySem.W.Frag) (t : Bool) (tl : TE) : TI := fun σ H R => tl σ H fun x H1 => ∃ a, x = .ref a ∧ (∃ xs, SqX K t H1 a xs) ∧ R (ItS K t a) H1
theorem pi_sq (t : Bool) {X : Cx} {tg l : Expr} {tl : TE} (hl : PE X l tl) : PI X tg l (iSq X.K t tl) := by
  cases t
  · exact pi_list hl
  · exact pi_tup hl
theorem kp_sq (K : PySem.W.Frag) (t : Bool) {X : Cx} {tg l : Expr} {tl : TE} (hl : PE X l tl) (e : X.K = K := by rfl) : PI X tg l (iSq K t tl) := e ▸ pi_sq t hl
theorem walk_s (t : Bool) {xs : List V} : Walk (ItS K t a) xs.length (fun H => SqX K t H a xs) (YAt xs) := by
  cases t
  · exact walk_list
  · exact walk_tup
theorem x_isq {t : Bool} {tl : TE} {R : It → Hp → Prop} (h : tl σ H fun x H1 => ∃ a, x = .ref a ∧ (∃ xs, SqX K t H1 a xs) ∧ R (ItS K t a) H1) : iSq K t tl σ H R := h
theorem x_izip {t1 t2 : Bool} {ta : TA} {R : It → Hp → Prop} (h : ta σ H fun vs H1 => ∃ a b xs ys, vs = [.ref a, .ref b] ∧ SqX K t1 H1 a xs ∧ SqX K t2 H1 b ys ∧ R (ItX K t1 t2 a b) H1) : iZipX K t1 t2 ta σ H R := h
theorem x_ienum {t : Bool} {ta : TA} {R : It → Hp → Prop} (h : ta σ H fun vs H1 => ∃ a xs, vs = [.ref a] ∧ SqX K t H1 a xs ∧ R (ItE K t a) H1) : iEnumX K t ta σ H R := h
theorem x_irng {ta : TA} {R : It → Hp → Prop} (h : ta σ H fun vs H1 => ∃ n, vs = [.int n] ∧ -(2 ^ 62) ≤ n ∧ n < 2 ^ 62 ∧ R (Itr 0 n.toNat) H1) : iRng1 ta σ H R := h
theorem x_sq {t : Bool} {xs : List V} {R : It → Hp → Prop} (h : SqX K t H a xs) (k : R (ItS K t a) H) : ∃ b, V.ref a = .ref b ∧ (∃ xs, SqX K t H b xs) ∧ R (ItS K t b) H := ⟨a, rfl, ⟨xs, h⟩, k⟩
/-- a comprehension that changes nothing that stood: F says what comes of the i-th turn -/
theorem x_lc {Qd : Addr → Hp → Prop} {α : Type} [Enc α] {J : It} {n : Nat} {G : Hp → Prop} {Y : Nat → Hp → V → Hp → Prop} {g : TG} {tt : TT} {te : TE} {vs : List Nat} (w : Walk J n G Y) (hn : n ≤ 100000) (hG : ∀ H2, Same H1 H2 → G H2) (F : Nat → Option α)
    (turn : ∀ (i : Nat) (x : V) (H2 H3 : Hp) (R : VK) (N : Hp → Prop), i < n → Same H1 H2 → Y i H2 x H3 → (∀ y, F i = some y → ∀ u H4, Same H3 H4 → Is K H4 u y → R u H4) → (F i = none → ∀ H4, Same H3 H4 → N H4) →
      g x (wipe σ vs) H3 fun σ2 H4 => wipe σ2 vs = wipe σ vs ∧ tt σ2 H4 fun b H5 => if b = true then te σ2 H5 R else N H5)
    (hY : ∀ (i : Nat) (x : V) (H2 H3 : Hp), Y i H2 x H3 → Same H2 H3)
    (done : ∀ D H2 us, H1 D = none → Same H1 H2 → H2 D = some (.lst us) → IsL K H2 us ((List.range n).filterMap F) → Qd D H2) :
    ∀ D, H1 D = none → ∃ W : Nat → Nat → Hp → Prop, (∃ m, W 0 m (upd H1 D (.lst []))) ∧ ∀ i m H, W i m H →
      (J.stop i H ∧ Qd D H) ∨ (J.go i H ∧ ∃ Nx : Hp → Prop, (∀ H', Nx H' → ∃ m', m' < m ∧ W (i + 1) m' H') ∧ ∀ x H', J.yld i H x H' → g x (wipe σ vs) H' fun σ2 H2 => wipe σ2 vs = wipe σ vs ∧ tt σ2 H2 fun b H3 =>
        if b = true then te σ2 H3 fun y H4 => ∃ acc, H4 D = some (.lst acc) ∧ acc.length < sizeLine ∧ Nx (upd H4 D (.lst (acc ++ [y]))) else Nx H3) := by
  intro D hD
  have step : ∀ i, (List.range (i + 1)).filterMap F = (List.range i).filterMap F ++ (match F i with | some y => [y] | none => []) := fun i => by
    rw [List.range_succ, List.filterMap_append]
    congr 1
    cases q : F i <;> simp [q]
  have len : ∀ i, ((List.range i).filterMap F).length ≤ i := fun i => by
    have := List.length_filterMap_le F (List.range i)
    rwa [List.length_range] at this
  refine lc_it w (fun i H => Same H1 H ∧ ∃ us, H D = some (.lst us) ∧ IsL K H us ((List.range i).filterMap F)) ⟨same_new hD, [], upd_same, .nil⟩ (fun i H _ p => hG H p.1) (fun i x H2 H3 hi p y => ?_) (fun H p => ?_)
  · obtain ⟨e1, us, eD, hl⟩ := p
    have e2 := hY i x H2 H3 y
    refine turn i x H2 H3 _ _ hi e1 y (fun z hz u H4 e3 q => ⟨us, ?_, ?_, ?_, us ++ [u], upd_same, ?_⟩) (fun hz H4 e3 => ⟨(e1.trans e2).trans e3, us, e3 _ _ (e2 _ _ eD), ?_⟩)
    · exact e3 _ _ (e2 _ _ eD)
    · have a1 := isl_len hl
      have a2 := len i
      have a3 : sizeLine = 16777216 := sizeLine_eq
      omega
    · exact Same.mut ((e1.trans e2).trans e3) hD
    · rw [step, hz]
      have k2 : Kp H4 (upd H4 D (.lst (us ++ [u]))) := kp_upd (e3 _ _ (e2 _ _ eD)) id
      have k : Kp H2 (upd H4 D (.lst (us ++ [u]))) := ((kp_same e2).trans (kp_same e3)).trans k2
      exact isl_app (TpAll.mono k hl) (isl_one (Tp.mono k2 q))
    · rw [step, hz]
      have k : Kp H2 H4 := (kp_same e2).trans (kp_same e3)
      have := TpAll.mono k hl
      simpa using this
  · obtain ⟨e1, us, eD, hl⟩ := p
    exact done D H us hD e1 eD hl

theorem range_get {α : Type} (l : List α) : (List.range l.length).filterMap (fun i => l[i]?) = l := by
  induction l with
  | nil => rfl
  | cons x r ih =>
    rw [List.length_cons, List.range_succ_eq_map, List.filterMap_cons]
    show x :: List.filterMap (fun i => (x :: r)[i]?) (List.map Nat.succ (List.range r.length)) = x :: r
    rw [List.filterMap_map]
    exact congrArg (x :: ·) ih
theorem yat_same {xs : List V} (i : Nat) (x : V) (H2 H3 : Hp) (h : YAt xs i H2 x H3) : Same H2 H3 := by
  obtain ⟨rfl, _⟩ := h
  exact Same.refl _
theorem ypair_same {xs ys : Nat → Option V} (i : Nat) (x : V) (H2 H3 : Hp) (h : YPair xs ys i H2 x H3) : Same H2 H3 := by
  obtain ⟨T, _, _, _, n, rfl, _, _⟩ := h
  exact same_new n
theorem yfn_same {f : Nat → V} (i : Nat) (x : V) (H2 H3 : Hp) (h : YFn f i H2 x H3) : Same H2 H3 := by
  obtain ⟨rfl, _⟩ := h
  exact Same.refl _
/-- .. the i-th turn makes the i-th of l -/
theorem x_lcL {Qd : Addr → Hp → Prop} {α : Type} [Enc α] (l : List α) {J : It} {n : Nat} {G : Hp → Prop} {Y : Nat → Hp → V → Hp → Prop} {g : TG} {tt : TT} {te : TE} {vs : List Nat} (w : Walk J n G Y) (hl : n = l.length) (hn : n ≤ 100000) (hG : ∀ H2, Same H1 H2 → G H2)
    (hY : ∀ (i : Nat) (x : V) (H2 H3 : Hp), Y i H2 x H3 → Same H2 H3)
    (turn : ∀ (i : Nat) (x : V) (y : α) (H2 H3 : Hp) (R : VK) (N : Hp → Prop), l[i]? = some y → Same H1 H2 → Y i H2 x H3 → (∀ u H4, Same H3 H4 → Is K H4 u y → R u H4) →
      g x (wipe σ vs) H3 fun σ2 H4 => wipe σ2 vs = wipe σ vs ∧ tt σ2 H4 fun b H5 => if b = true then te σ2 H5 R else N H5)
    (done : ∀ D H2 us, H1 D = none → Same H1 H2 → H2 D = some (.lst us) → IsL K H2 us l → Qd D H2) :
    ∀ D, H1 D = none → ∃ W : Nat → Nat → Hp → Prop, (∃ m, W 0 m (upd H1 D (.lst []))) ∧ ∀ i m H, W i m H →
      (J.stop i H ∧ Qd D H) ∨ (J.go i H ∧ ∃ Nx : Hp → Prop, (∀ H', Nx H' → ∃ m', m' < m ∧ W (i + 1) m' H') ∧ ∀ x H', J.yld i H x H' → g x (wipe σ vs) H' fun σ2 H2 => wipe σ2 vs = wipe σ vs ∧ tt σ2 H2 fun b H3 =>
        if b = true then te σ2 H3 fun y H4 => ∃ acc, H4 D = some (.lst acc) ∧ acc.length < sizeLine ∧ Nx (upd H4 D (.lst (acc ++ [y]))) else Nx H3) := by
  subst hl
  refine x_lc w hn hG (fun i => l[i]?) (fun i x H2 H3 R N hi e y h1 _ => ?_) hY fun D H2 us a b c d => done D H2 us a b c (by rwa [range_get] at d)
  exact turn i x l[i] H2 H3 R N (List.getElem?_eq_getElem hi) e y (h1 _ (List.getElem?_eq_getElem hi))
end
end K66

/-! W1: numbers (own work) -/
namespace K66
open PySem PySem.Spec PyProof.Rows L2
theorem gcd_small {n d : Int} (h : 0 < d) (hd : d.natAbs < 2 ^ 8000) : CDivW n ((Nat.gcd n.natAbs d.natAbs : Nat) : Int) := by
  have hp : 0 < Nat.gcd n.natAbs d.natAbs := Nat.gcd_pos_of_pos_right _ (by omega)
  have hl : Nat.gcd n.natAbs d.natAbs ≤ d.natAbs := Nat.gcd_le_right _ (by omega)
  exact wide_div (b := 8000) (by omega) (by rw [Int.natAbs_natCast]; exact Nat.lt_of_le_of_lt hl hd) (by decide) (by decide)
theorem mw_nd {p q : Rat} (hp : Sz p) (hq : Sz q) : CMulW p.num q.den := wide_mul (a := 3000) (b := 3000) hp.n (by rw [Int.natAbs_natCast]; exact hq.d) (by decide) (by decide) (by decide)
theorem mw_nn {p q : Rat} (hp : Sz p) (hq : Sz q) : CMulW p.num q.num := wide_mul (a := 3000) (b := 3000) hp.n hq.n (by decide) (by decide) (by decide)
theorem mw_dd {p q : Rat} (hp : Sz p) (hq : Sz q) : CMulW p.den q.den := wide_mul (a := 3000) (b := 3000) (by rw [Int.natAbs_natCast]; exact hp.d) (by rw [Int.natAbs_natCast]; exact hq.d) (by decide) (by decide) (by decide)
theorem dd_pos (p q : Rat) : (0 : Int) < (p.den : Int) * q.den := Int.mul_pos (den_pos p) (den_pos q)
theorem dd_small {p q : Rat} (hp : Sz p) (hq : Sz q) : ((p.den : Int) * q.den).natAbs < 2 ^ 8000 := by
  have := wide_lt (i := (p.den : Int)) (j := q.den) (a := 3000) (b := 3000) (by rw [Int.natAbs_natCast]; exact hp.d) (by rw [Int.natAbs_natCast]; exact hq.d)
  exact Nat.lt_of_lt_of_le this (Nat.pow_le_pow_right (by decide) (by decide))
local macro_rules | `(tactic| walk_at "kp") => `(tactic| first
  | exact Kp.refl _
  | assumption
  | (refine Kp.trans (by assumption) ?_; walk_at "kp")
  | (refine Kp.trans (kp_same (by assumption)) ?_; walk_at "kp"))
local macro_rules | `(tactic| walk_at "is") => `(tactic| first
  | assumption
  | (refine Tp.mono ?_ (by assumption); walk_at "kp"))
local macro_rules | `(tactic| walk_at "x") => `(tactic| with_reducible first
  | refine x_seq ?_ | refine x_ret ?_ | refine x_asg ?_ | refine x_ifs ?_ | refine x_drop ?_ | refine x_next ?_ | refine x_call ?_ | refine x_cb ?_ | refine x_cons ?_ | refine x_nil ?_
  | refine x_op ?_ | refine x_un ?_ | refine x_c ?_ | refine x_i0 ?_ | refine x_u ?_ | refine x_eqI ?_ | refine x_neI ?_ | refine x_test ?_ | refine x_tb ?_ | refine x_bl ?_ | refine x_not ?_
  | refine x_and ?_ | refine x_or ?_ | refine x_andV ?_ | refine x_orV ?_ | refine x_notV ?_ | refine x_if ?_ | refine x_tup ?_ | refine x_lst ?_ | refine x_name ?_ | refine x_gcd ?_ | refine x_for ?_ | refine x_par ?_ | refine x_par3 ?_ | refine x_two ?_ | refine x_three ?_ | refine x_lcd ?_ | refine x_yes ?_ | refine x_isq ?_ | refine x_izip ?_ | refine x_ienum ?_ | refine x_irng ?_ | refine x_kt ?_ | refine x_isiI ?_ | refine x_isiB ?_ | refine x_chain ?_ | refine x_sl ?_ | refine x_part ?_ | refine x_nopart ?_ | refine x_isint ?_ | refine x_bm ?_ | refine x_tix ?_ )
local macro_rules | `(tactic| walk_at "v") => `(tactic| ((with_reducible refine x_var (v := ?kv) ?k1 ?_); (case k1 => exact rfl)))
local macro_rules | `(tactic| walk_at "n") => `(tactic| first
  | ((with_reducible refine x_num (q := ?kv) ?k1 ?_); (case k1 => walk_at "is"))
  | ((with_reducible refine x_den (q := ?kv) ?k1 ?_); (case k1 => walk_at "is")))
local macro_rules | `(tactic| walk_at "m") => `(tactic| ((with_reducible refine x_i ?k1 ?_); (case k1 => first | exact mw_nd (by assumption) (by assumption) | exact mw_nn (by assumption) (by assumption) | exact mw_dd (by assumption) (by assumption))))
local macro_rules | `(tactic| walk_at "tu") => `(tactic| first
  | assumption
  | (refine TupA.mono ?_ (by assumption); walk_at "kp"))
local macro_rules | `(tactic| walk_at "i") => `(tactic| first
  | ((with_reducible refine x_ix0 (us := ?ku) (v := ?kv) ?k1 ?k2 ?_); (case k1 => walk_at "tu"); (case k2 => exact rfl))
  | ((with_reducible refine x_ix1 (us := ?ku) (v := ?kv) ?k1 ?k2 ?_); (case k1 => walk_at "tu"); (case k2 => exact rfl))
  | ((with_reducible refine x_ix2 (us := ?ku) (v := ?kv) ?k1 ?k2 ?_); (case k1 => walk_at "tu"); (case k2 => exact rfl)))
local macro_rules | `(tactic| walk_at "ht") => `(tactic| refine x_t (by first | rfl | (simp; done) | (simp; omega)) ?_)
local macro_rules | `(tactic| walk_at "hf") => `(tactic| refine x_f (by first | rfl | (simp; done) | (simp; omega)) ?_)
local macro_rules | `(tactic| walk_at "g") => `(tactic| repeat (first | walk_at "x" | walk_at "v" | walk_at "n" | walk_at "i" | walk_at "m" | ((with_reducible refine x_f ?k1 ?_); (case k1 => exact rfl)) | ((with_reducible refine x_t ?k1 ?_); (case k1 => exact rfl))))

/-! ### promises -/
def sp_ratio (K : PySem.W.Frag) : Sp := fun vs H Q _ => ∃ n d : Int, vs = [.int n, .int d] ∧ 0 < d ∧ d.natAbs < 2 ^ 8000 ∧ ∀ v H', Same H H' → Is K H' v (mkRat n d.natAbs) → Q v H'
def sp_plus (K : PySem.W.Frag) : Sp := fun vs H Q _ => ∃ (x y : V) (p q : Rat), vs = [x, y] ∧ Is K H x p ∧ Is K H y q ∧ Sz p ∧ Sz q ∧ ∀ v H', Same H H' → Is K H' v (p + q) → Q v H'
def sp_times (K : PySem.W.Frag) : Sp := fun vs H Q _ => ∃ (x y : V) (p q : Rat), vs = [x, y] ∧ Is K H x p ∧ Is K H y q ∧ Sz p ∧ Sz q ∧ ∀ v H', Same H H' → Is K H' v (p * q) → Q v H'
def sp_is_less (K : PySem.W.Frag) : Sp := fun vs H Q _ => ∃ (x y : V) (p q : Rat), vs = [x, y] ∧ Is K H x p ∧ Is K H y q ∧ Sz p ∧ Sz q ∧ Q (.bl (decide (p < q))) H
def sp_total (K : PySem.W.Frag) : Sp := fun vs H Q _ => ∃ (t : Bool) (a : Addr) (us : List V) (xs : List Rat), vs = [.ref a] ∧ SqX K t H a us ∧ IsL K H us xs ∧ SumOk xs ∧ ∀ v H', Same H H' → Is K H' v (rsum xs) → Q v H'
section
variable {P : Program} {w : World} {K : PySem.W.Frag} {mg : Str → Option Value} {base : Heap}
theorem ok_ratio (T : Tx K mg) : FnOk P w K mg base CX0 1 (He.ga K "ratio") (fdAt K (He.ga K "ratio")) ["top", "low"] (sp_ratio K) := by
  refine FunD.ok T.F_ratio sc_ratio (fun vs H Q E h => by obtain ⟨n, d, rfl, _⟩ := h; rfl) (fun cdv A outer s H vs Q E hr h => ⟨_, PSs.nox (pss_cons (ps_set (i := 2) sc_ratio.nd rfl (by first | exact Or.inl rfl | exact Or.inr rfl) (pe_ifExp (pt_cmpR op_gt (pv 1) pe_int (nomark _)) (pe_callBfun cr_gcd (by rfl) T.m_gcd (pa_cons (pv 0) (pa_cons (pv 1) pa_nil))) (pe_un un_neg (pe_callBfun cr_gcd (by rfl) T.m_gcd (pa_cons (pv 0) (pa_cons (pv 1) pa_nil))))))
    (pss_one (ps_ret (pe_tup (pa_cons (pe_op op_fdivW (pv 0) (pv 2)) (pa_cons (pe_op op_fdivW (pv 1) (pv 2)) pa_nil)))))), ?_⟩)
  obtain ⟨n, d, rfl, h0, hd, q⟩ := h
  walk_at "g"
  refine x_t (decide_eq_true h0) ?_
  walk_at "g"
  refine x_i (gcd_small h0 hd) ?_
  walk_at "g"
  refine x_i (gcd_small h0 hd) ?_
  walk_at "g"
  refine x_new2 fun p hp => q _ _ (same_new hp) (is_rat_mk (.of ?_))
  rw [upd_same, mk_num h0, mk_den h0]
theorem ok_plus (T : Tx K mg) : FnOk P w K mg base CX0 2 (He.ga K "plus") (fdAt K (He.ga K "plus")) ["one", "two"] (sp_plus K) := by
  refine FunD.ok T.F_plus sc_plus (fun vs H Q E h => by obtain ⟨x, y, p, q, rfl, _⟩ := h; rfl) (fun cdv A outer s H vs Q E hr h => ⟨_, PSs.nox (pss_one (ps_ret (pe_call (ok_ratio T) (hr.mono (by decide)) (by rfl) T.m_ratio T.F_ratio.kp (b_ratio T) .nil pass0 (pa_cons (pe_op op_add (pe_op op_mulW (pe_ix (ki_tup K) (pv 0) pe_int (fun _ _ => rfl)) (pe_ix (ki_tup K) (pv 1) pe_int (fun _ _ => rfl))) (pe_op op_mulW (pe_ix (ki_tup K) (pv 1) pe_int (fun _ _ => rfl)) (pe_ix (ki_tup K) (pv 0) pe_int (fun _ _ => rfl)))) (pa_cons (pe_op op_mulW (pe_ix (ki_tup K) (pv 0) pe_int (fun _ _ => rfl)) (pe_ix (ki_tup K) (pv 1) pe_int (fun _ _ => rfl))) pa_nil))))), ?_⟩)
  obtain ⟨x, y, p, q, rfl, hx, hy, sp, sq, k⟩ := h
  walk_at "g"
  refine ⟨_, _, rfl, dd_pos p q, dd_small sp sq, fun v H' e hv => k v H' e ?_⟩
  rwa [add_mk] at hv
theorem ok_times (T : Tx K mg) : FnOk P w K mg base CX0 2 (He.ga K "times") (fdAt K (He.ga K "times")) ["one", "two"] (sp_times K) := by
  refine FunD.ok T.F_times sc_times (fun vs H Q E h => by obtain ⟨x, y, p, q, rfl, _⟩ := h; rfl) (fun cdv A outer s H vs Q E hr h => ⟨_, PSs.nox (pss_one (ps_ret (pe_call (ok_ratio T) (hr.mono (by decide)) (by rfl) T.m_ratio T.F_ratio.kp (b_ratio T) .nil pass0 (pa_cons (pe_op op_mulW (pe_ix (ki_tup K) (pv 0) pe_int (fun _ _ => rfl)) (pe_ix (ki_tup K) (pv 1) pe_int (fun _ _ => rfl))) (pa_cons (pe_op op_mulW (pe_ix (ki_tup K) (pv 0) pe_int (fun _ _ => rfl)) (pe_ix (ki_tup K) (pv 1) pe_int (fun _ _ => rfl))) pa_nil))))), ?_⟩)
  obtain ⟨x, y, p, q, rfl, hx, hy, sp, sq, k⟩ := h
  walk_at "g"
  refine ⟨_, _, rfl, dd_pos p q, dd_small sp sq, fun v H' e hv => k v H' e ?_⟩
  rwa [mul_mk] at hv
theorem ok_is_less (T : Tx K mg) : FnOk P w K mg base CX0 1 (He.ga K "is_less") (fdAt K (He.ga K "is_less")) ["one", "two"] (sp_is_less K) := by
  refine FunD.ok T.F_is_less sc_is_less (fun vs H Q E h => by obtain ⟨x, y, p, q, rfl, _⟩ := h; rfl) (fun cdv A outer s H vs Q E hr h => ⟨_, PSs.nox (pss_one (ps_ret (pe_cmpR op_lt (pe_op op_mulW (pe_ix (ki_tup K) (pv 0) pe_int (fun _ _ => rfl)) (pe_ix (ki_tup K) (pv 1) pe_int (fun _ _ => rfl))) (pe_op op_mulW (pe_ix (ki_tup K) (pv 1) pe_int (fun _ _ => rfl)) (pe_ix (ki_tup K) (pv 0) pe_int (fun _ _ => rfl))) (nomark _)))), ?_⟩)
  obtain ⟨x, y, p, q, rfl, hx, hy, sp, sq, k⟩ := h
  walk_at "g"
  simp only [Rat.lt_iff] at k
  exact k
theorem ok_total (T : Tx K mg) : FnOk P w K mg base CX0 3 (He.ga K "total") (fdAt K (He.ga K "total")) ["fractions"] (sp_total K) := by
  refine FunD.ok T.F_total sc_total (fun vs H Q E h => by obtain ⟨_, _, _, _, rfl, _⟩ := h; rfl) (fun cdv A outer s H vs Q E hr h => ?_)
  obtain ⟨t, a, us, xs, rfl, hs, hl, so, k⟩ := h
  refine ⟨_, PSs.nox (pss_cons (ps_set (i := 1) sc_total.nd rfl (by first | exact Or.inl rfl | exact Or.inr rfl) (pe_glob (v := .ref (He.ga K "ZERO")) (by rfl) T.m_ZERO rfl))
    (pss_cons (ps_for PassesOwn.never rfl (kp_sq K t (pv 0)) (pg_name (i := 2) sc_total.nd rfl (by first | exact Or.inl rfl | exact Or.inr rfl) (Or.inl rfl)) (pss_one (ps_set (i := 1) sc_total.nd rfl (by first | exact Or.inl rfl | exact Or.inr rfl) (pe_call (ok_plus T) (hr.mono (by decide)) (by rfl) T.m_plus T.F_plus.kp (b_plus T) .nil pass0 (pa_cons (pv 1) (pa_cons (pv 2) pa_nil))))))
    (pss_one (ps_ret (pv 1))))), ?_⟩
  walk_at "g"
  refine ⟨a, rfl, ⟨us, hs⟩, for_it (walk_s t (xs := us)) (fun i σ' H' => ∃ u y2, σ' = [some (.ref a), some u, y2] ∧ Same H H' ∧ Is K H' u (rsum (xs.take i))) ⟨_, none, rfl, Same.refl _, zero_is T _⟩ (fun i σ' H' _ ⟨u, y2, _, e, _⟩ => sqx_same e hs) ?_ ?_⟩
  · rintro i x σ' H1 H2 hi ⟨u, y2, rfl, e, hu⟩ ⟨rfl, gx⟩
    obtain ⟨z, gz, hz⟩ := isl_get hl gx
    have hz' := Tp.mono (kp_same e) hz
    have s1 := so.part i
    have s2 := so.item (List.mem_of_getElem? gz)
    walk_at "g"
    refine ⟨_, _, _, _, rfl, hu, hz', s1, s2, fun v H3 e3 hv => ?_⟩
    refine ⟨v, some x, rfl, e.trans e3, ?_⟩
    rw [rsum_take gz]
    exact hv
  · rintro σ' H1 ⟨u, y2, rfl, e, hu⟩
    rw [isl_len hl, List.take_length] at hu
    walk_at "g"
    exact k _ _ e hu
end
end K66

/-! W2: rows, what values are (own work) -/
namespace K66
open PySem PySem.Spec PyProof.Rows L2
local macro_rules | `(tactic| walk_at "kp") => `(tactic| first
  | exact Kp.refl _
  | assumption
  | (refine Kp.trans (by assumption) ?_; walk_at "kp")
  | (refine Kp.trans (kp_same (by assumption)) ?_; walk_at "kp"))
local macro_rules | `(tactic| walk_at "is") => `(tactic| first
  | assumption
  | (refine Tp.mono ?_ (by assumption); walk_at "kp"))
local macro_rules | `(tactic| walk_at "x") => `(tactic| with_reducible first
  | refine x_seq ?_ | refine x_ret ?_ | refine x_asg ?_ | refine x_ifs ?_ | refine x_drop ?_ | refine x_next ?_ | refine x_call ?_ | refine x_cb ?_ | refine x_cons ?_ | refine x_nil ?_
  | refine x_op ?_ | refine x_un ?_ | refine x_c ?_ | refine x_i0 ?_ | refine x_u ?_ | refine x_eqI ?_ | refine x_neI ?_ | refine x_test ?_ | refine x_tb ?_ | refine x_bl ?_ | refine x_not ?_
  | refine x_and ?_ | refine x_or ?_ | refine x_andV ?_ | refine x_orV ?_ | refine x_notV ?_ | refine x_if ?_ | refine x_tup ?_ | refine x_lst ?_ | refine x_name ?_ | refine x_gcd ?_ | refine x_for ?_ | refine x_par ?_ | refine x_par3 ?_ | refine x_two ?_ | refine x_three ?_ | refine x_lcd ?_ | refine x_yes ?_ | refine x_isq ?_ | refine x_izip ?_ | refine x_ienum ?_ | refine x_irng ?_ | refine x_kt ?_ | refine x_isiI ?_ | refine x_isiB ?_ | refine x_chain ?_ | refine x_sl ?_ | refine x_part ?_ | refine x_nopart ?_ | refine x_isint ?_ | refine x_bm ?_ | refine x_tix ?_ )
local macro_rules | `(tactic| walk_at "v") => `(tactic| ((with_reducible refine x_var (v := ?kv) ?k1 ?_); (case k1 => exact rfl)))
local macro_rules | `(tactic| walk_at "n") => `(tactic| first
  | ((with_reducible refine x_num (q := ?kv) ?k1 ?_); (case k1 => walk_at "is"))
  | ((with_reducible refine x_den (q := ?kv) ?k1 ?_); (case k1 => walk_at "is")))
local macro_rules | `(tactic| walk_at "m") => `(tactic| ((with_reducible refine x_i ?k1 ?_); (case k1 => first | exact mw_nd (by assumption) (by assumption) | exact mw_nn (by assumption) (by assumption) | exact mw_dd (by assumption) (by assumption))))
local macro_rules | `(tactic| walk_at "tu") => `(tactic| first
  | assumption
  | (refine TupA.mono ?_ (by assumption); walk_at "kp"))
local macro_rules | `(tactic| walk_at "i") => `(tactic| first
  | ((with_reducible refine x_ix0 (us := ?ku) (v := ?kv) ?k1 ?k2 ?_); (case k1 => walk_at "tu"); (case k2 => exact rfl))
  | ((with_reducible refine x_ix1 (us := ?ku) (v := ?kv) ?k1 ?k2 ?_); (case k1 => walk_at "tu"); (case k2 => exact rfl))
  | ((with_reducible refine x_ix2 (us := ?ku) (v := ?kv) ?k1 ?k2 ?_); (case k1 => walk_at "tu"); (case k2 => exact rfl)))
local macro_rules | `(tactic| walk_at "ht") => `(tactic| refine x_t (by first | rfl | (simp; done) | (simp; omega)) ?_)
local macro_rules | `(tactic| walk_at "hf") => `(tactic| refine x_f (by first | rfl | (simp; done) | (simp; omega)) ?_)
local macro_rules | `(tactic| walk_at "g") => `(tactic| repeat (first | walk_at "x" | walk_at "v" | walk_at "n" | walk_at "i" | walk_at "m" | ((with_reducible refine x_f ?k1 ?_); (case k1 => exact rfl)) | ((with_reducible refine x_t ?k1 ?_); (case k1 => exact rfl))))

def dotR (ws gs : List Rat) : Rat := rsum (List.zipWith (fun a b => a * b) ws gs)
theorem flat1 {α : Type} (x : α) : ∀ n : Nat, (List.replicate n [x]).flatten = List.replicate n x
  | 0 => rfl
  | n + 1 => by rw [List.replicate_succ, List.flatten_cons, flat1 x n]; rfl
def sp_dot (K : PySem.W.Frag) : Sp := fun vs H Q _ => ∃ (x y : V) (ws gs : List Rat), vs = [x, y] ∧ Is K H x ws ∧ Is K H y gs ∧ (∀ p ∈ ws, Sz p) ∧ (∀ q ∈ gs, Sz q) ∧ ws.length ≤ 1000 ∧ SumOk (List.zipWith (fun a b => a * b) ws gs) ∧
  ∀ v H', Same H H' → Is K H' v (dotR ws gs) → Q v H'
def sp_noughts (K : PySem.W.Frag) : Sp := fun vs H Q _ => ∃ n : Nat, vs = [.int n] ∧ 1 ≤ n ∧ n ≤ 1000 ∧ ∀ v H', Same H H' → Is K H' v (List.replicate n (0 : Rat)) → Q v H'
section
variable {P : Program} {w : World} {K : PySem.W.Frag} {mg : Str → Option Value} {base : Heap}
theorem ok_dot (T : Tx K mg) : FnOk P w K mg base CX0 4 (He.ga K "dot") (fdAt K (He.ga K "dot")) ["one", "two"] (sp_dot K) := by
  refine FunD.ok T.F_dot sc_dot (fun vs H Q E h => by obtain ⟨x, y, ws, gs, rfl, _⟩ := h; rfl) (fun cdv A outer s H vs Q E hr h => ⟨_, PSs.nox (pss_one (ps_ret (pe_call (ok_total T) (hr.mono (by decide)) (by rfl) T.m_total T.F_total.kp (b_total T) .nil pass0 (pa_cons (pe_lc (own := [("here", 2), ("there", 3)]) rfl sc_dot.nd (kp_zip K true true (by rfl) T.z_zip (pa_cons (pv 0) (pa_cons (pv 1) pa_nil))) (blkOk_by (by kernel_rfl)) (fun _ _ _ _ _ => (kg_tup K (n := 2) rfl (pgs_cons (pg_name (i := 2) sc_dot.nd rfl (Or.inl rfl) (Or.inr rfl)) (pgs_cons (pg_name (i := 3) sc_dot.nd rfl (Or.inl rfl) (Or.inr rfl)) pgs_nil)))) (fun _ _ _ _ _ => pts_nil) (fun _ _ _ _ _ => (pe_call (ok_times T) (hr.mono (by decide)) (by rfl) T.m_times T.F_times.kp (b_times T) .nil pass0 (pa_cons (pv 2) (pa_cons (pv 3) pa_nil))))) pa_nil)))), ?_⟩)
  obtain ⟨x, y, ws, gs, rfl, hx, hy, sw, sg, hn, so, k⟩ := h
  obtain ⟨a, us, rfl, ta, la⟩ := is_list hx
  obtain ⟨b, zs, rfl, tb, lb⟩ := is_list hy
  walk_at "g"
  have e1 := isl_len la
  have e2 := isl_len lb
  refine ⟨a, b, us, zs, rfl, ta.sqx, tb.sqx, x_lcL (K := K) (List.zipWith (fun a b => a * b) ws gs) (walk_x rfl) (by rw [List.length_zipWith, e1, e2]) (by omega) (fun H2 e => ⟨sqx_same e ta.sqx, sqx_same e tb.sqx⟩) ypair_same ?_ ?_⟩
  · rintro i x y H2 H3 R N gy e ⟨T, u1, u2, rfl, nT, rfl, g1, g2⟩ done
    obtain ⟨p, gp, hp⟩ := isl_get la g1
    obtain ⟨q, gq, hq⟩ := isl_get lb g2
    refine x_gpair (.of upd_same) ⟨rfl, ?_⟩
    rw [List.getElem?_zipWith, gp, gq] at gy
    cases gy
    walk_at "g"
    have e3 := e.trans (same_new (o := .tup [u1, u2]) nT)
    walk_at "g"
    exact ⟨_, _, _, _, rfl, Tp.mono (kp_same e3) hp, Tp.mono (kp_same e3) hq, sw _ (List.mem_of_getElem? gp), sg _ (List.mem_of_getElem? gq), done⟩
  · intro L H2 us nL e hL il
    walk_at "g"
    exact ⟨false, L, us, _, rfl, SqL.of hL, il, so, fun v H3 e3 hv => k v H3 (e.trans e3) hv⟩
theorem ok_noughts (T : Tx K mg) : FnOk P w K mg base CX0 1 (He.ga K "noughts") (fdAt K (He.ga K "noughts")) ["many"] (sp_noughts K) := by
  refine FunD.ok T.F_noughts sc_noughts (fun vs H Q E h => by obtain ⟨n, rfl, _⟩ := h; rfl) (fun cdv A outer s H vs Q E hr h => ⟨_, PSs.nox (pss_one (ps_ret (pe_op (ko_rep K) (pe_tup (pa_cons (pe_glob (v := .ref (He.ga K "ZERO")) (by rfl) T.m_ZERO rfl) pa_nil)) (pv 0)))), ?_⟩)
  obtain ⟨n, rfl, h1, h2, k⟩ := h
  walk_at "g"
  refine ⟨by show 1 ≤ sizeLine; decide, fun p hp => ?_⟩
  walk_at "g"
  have hz : IsL K (upd H p (.tup [.ref (He.ga K "ZERO")])) [.ref (He.ga K "ZERO")] [(0 : Rat)] := isl_one (zero_is T _)
  refine ⟨p, n, _, rfl, rfl, SqT.of upd_same, (fun z => by cases z), ⟨by omega, by omega, by show 1 ≤ 1000; decide⟩, fun e => ?_, fun _ q hq => ?_⟩
  · have e1 : n = 1 := by omega
    subst e1
    exact k _ _ (same_new hp) (is_list_mk (.of upd_same) hz)
  · refine k _ _ ((same_new hp).trans (same_new hq)) (is_list_mk (.of upd_same) ?_)
    have e1 : (List.replicate (n : Int).toNat [V.ref (He.ga K "ZERO")]).flatten = List.replicate n (V.ref (He.ga K "ZERO")) := by
      rw [Int.toNat_natCast]
      exact flat1 _ n
    rw [e1]
    show TpAll K _ _ ((List.replicate n (0 : Rat)).map Enc.enc)
    rw [List.map_replicate]
    exact TpAll.rep (zero_is T _) n
end
end K66

/-! W3: what is a fraction, a row, chances (own work) -/
namespace K66
open PySem PySem.Spec PyProof.Rows L2
local macro_rules | `(tactic| walk_at "kp") => `(tactic| first
  | exact Kp.refl _
  | assumption
  | (refine Kp.trans (by assumption) ?_; walk_at "kp")
  | (refine Kp.trans (kp_same (by assumption)) ?_; walk_at "kp"))
local macro_rules | `(tactic| walk_at "is") => `(tactic| first
  | assumption
  | (refine Tp.mono ?_ (by assumption); walk_at "kp"))
local macro_rules | `(tactic| walk_at "x") => `(tactic| with_reducible first
  | refine x_seq ?_ | refine x_ret ?_ | refine x_asg ?_ | refine x_ifs ?_ | refine x_drop ?_ | refine x_next ?_ | refine x_call ?_ | refine x_cb ?_ | refine x_cons ?_ | refine x_nil ?_
  | refine x_op ?_ | refine x_un ?_ | refine x_c ?_ | refine x_i0 ?_ | refine x_u ?_ | refine x_eqI ?_ | refine x_neI ?_ | refine x_test ?_ | refine x_tb ?_ | refine x_bl ?_ | refine x_not ?_
  | refine x_and ?_ | refine x_or ?_ | refine x_andV ?_ | refine x_orV ?_ | refine x_notV ?_ | refine x_if ?_ | refine x_tup ?_ | refine x_lst ?_ | refine x_name ?_ | refine x_gcd ?_ | refine x_for ?_ | refine x_par ?_ | refine x_par3 ?_ | refine x_two ?_ | refine x_three ?_ | refine x_lcd ?_ | refine x_yes ?_ | refine x_isq ?_ | refine x_izip ?_ | refine x_ienum ?_ | refine x_irng ?_ | refine x_kt ?_ | refine x_isiI ?_ | refine x_isiB ?_ | refine x_chain ?_ | refine x_sl ?_ | refine x_part ?_ | refine x_nopart ?_ | refine x_isint ?_ | refine x_bm ?_ | refine x_tix ?_ )
local macro_rules | `(tactic| walk_at "v") => `(tactic| ((with_reducible refine x_var (v := ?kv) ?k1 ?_); (case k1 => exact rfl)))
local macro_rules | `(tactic| walk_at "n") => `(tactic| first
  | ((with_reducible refine x_num (q := ?kv) ?k1 ?_); (case k1 => walk_at "is"))
  | ((with_reducible refine x_den (q := ?kv) ?k1 ?_); (case k1 => walk_at "is")))
local macro_rules | `(tactic| walk_at "m") => `(tactic| ((with_reducible refine x_i ?k1 ?_); (case k1 => first | exact mw_nd (by assumption) (by assumption) | exact mw_nn (by assumption) (by assumption) | exact mw_dd (by assumption) (by assumption))))
local macro_rules | `(tactic| walk_at "tu") => `(tactic| first
  | assumption
  | (refine TupA.mono ?_ (by assumption); walk_at "kp"))
local macro_rules | `(tactic| walk_at "i") => `(tactic| first
  | ((with_reducible refine x_ix0 (us := ?ku) (v := ?kv) ?k1 ?k2 ?_); (case k1 => walk_at "tu"); (case k2 => exact rfl))
  | ((with_reducible refine x_ix1 (us := ?ku) (v := ?kv) ?k1 ?k2 ?_); (case k1 => walk_at "tu"); (case k2 => exact rfl))
  | ((with_reducible refine x_ix2 (us := ?ku) (v := ?kv) ?k1 ?k2 ?_); (case k1 => walk_at "tu"); (case k2 => exact rfl)))
local macro_rules | `(tactic| walk_at "ht") => `(tactic| refine x_t (by first | rfl | (simp; done) | (simp; omega)) ?_)
local macro_rules | `(tactic| walk_at "hf") => `(tactic| refine x_f (by first | rfl | (simp; done) | (simp; omega)) ?_)
local macro_rules | `(tactic| walk_at "g") => `(tactic| repeat (first | walk_at "x" | walk_at "v" | walk_at "n" | walk_at "i" | walk_at "m" | ((with_reducible refine x_f ?k1 ?_); (case k1 => exact rfl)) | ((with_reducible refine x_t ?k1 ?_); (case k1 => exact rfl))))

structure ChOk (n : Nat) (ch : Ch) : Prop where
  asc : ∀ (i : Nat) (p q : Nat × Rat), ch[i]? = some p → ch[i + 1]? = some q → p.1 < q.1
  lt : ∀ p ∈ ch, p.1 < n
  pos : ∀ p ∈ ch, 0 < p.2
  one : rsum (ch.map (·.2)) = 1
  so : SumOk (ch.map (·.2))
  len : ch.length ≤ 1000
def sp_is_whole (K : PySem.W.Frag) : Sp := fun vs H Q _ => ∃ i : Int, vs = [.int i] ∧ Q (.bl true) H
def sp_is_between (K : PySem.W.Frag) : Sp := fun vs H Q _ => ∃ i lo hi : Int, vs = [.int i, .int lo, .int hi] ∧ lo ≤ i ∧ i ≤ hi ∧ Q (.bl true) H
def sp_is_tuple_of (K : PySem.W.Frag) : Sp := fun vs H Q _ => ∃ (a : Addr) (us : List V), vs = [.ref a, .int us.length] ∧ TupA K H a us ∧ Q (.bl true) H
def sp_is_ratio (K : PySem.W.Frag) : Sp := fun vs H Q _ => ∃ (x : V) (q : Rat), vs = [x] ∧ Is K H x q ∧ Q (.bl true) H
def sp_is_row (K : PySem.W.Frag) : Sp := fun vs H Q _ => ∃ (x : V) (l : List Rat), vs = [x, .int l.length] ∧ Is K H x l ∧ l.length ≤ 1000 ∧ ∀ H', Same H H' → Q (.bl true) H'
def sp_are_chances (K : PySem.W.Frag) : Sp := fun vs H Q _ => ∃ (x : V) (ch : Ch) (n : Nat), vs = [x, .int n] ∧ Is K H x ch ∧ ChOk n ch ∧ ∀ H', Same H H' → Q (.bl true) H'
section
variable {P : Program} {w : World} {K : PySem.W.Frag} {mg : Str → Option Value} {base : Heap}
theorem ok_is_whole (T : Tx K mg) : FnOk P w K mg base CX0 1 (He.ga K "is_whole") (fdAt K (He.ga K "is_whole")) ["value"] (sp_is_whole K) := by
  refine FunD.ok T.F_is_whole sc_is_whole (fun vs H Q E h => by obtain ⟨i, rfl, _⟩ := h; rfl) (fun cdv A outer s H vs Q E hr h => ⟨_, PSs.nox (pss_one (ps_ret (pe_and (pe_callB (kc_isi K) (by rfl) T.z_isinstance bt_isinstance (pa_cons (pv 0) (pa_cons (pe_bltn (v := .ty "int") (by rfl) T.z_int bt_int rfl) pa_nil))) (pe_one (pe_not (pe_callB (kc_isi K) (by rfl) T.z_isinstance bt_isinstance (pa_cons (pv 0) (pa_cons (pe_bltn (v := .ty "bool") (by rfl) T.z_bool bt_bool rfl) pa_nil)))))))), ?_⟩)
  obtain ⟨i, rfl, k⟩ := h
  walk_at "g"
  exact k
theorem ok_is_between (T : Tx K mg) : FnOk P w K mg base CX0 2 (He.ga K "is_between") (fdAt K (He.ga K "is_between")) ["value", "low", "high"] (sp_is_between K) := by
  refine FunD.ok T.F_is_between sc_is_between (fun vs H Q E h => by obtain ⟨i, lo, hi, rfl, _⟩ := h; rfl) (fun cdv A outer s H vs Q E hr h => ⟨_, PSs.nox (pss_one (ps_ret (pe_and (pe_call (ok_is_whole T) (hr.mono (by decide)) (by rfl) T.m_is_whole T.F_is_whole.kp (b_is_whole T) .nil pass0 (pa_cons (pv 0) pa_nil)) (pe_one (pe_chain op_le op_le (pv 1) (pv 0) (pv 2)))))), ?_⟩)
  obtain ⟨i, lo, hi, rfl, h1, h2, k⟩ := h
  walk_at "g"
  refine ⟨i, rfl, ?_⟩
  walk_at "g"
  refine x_t (decide_eq_true h1) ?_
  walk_at "g"
  rw [decide_eq_true h2]
  exact k
theorem ok_is_tuple_of (T : Tx K mg) : FnOk P w K mg base CX0 1 (He.ga K "is_tuple_of") (fdAt K (He.ga K "is_tuple_of")) ["value", "many"] (sp_is_tuple_of K) := by
  refine FunD.ok T.F_is_tuple_of sc_is_tuple_of (fun vs H Q E h => by obtain ⟨a, us, rfl, _⟩ := h; rfl) (fun cdv A outer s H vs Q E hr h => ⟨_, PSs.nox (pss_one (ps_ret (pe_and (pe_callB (kc_isi K) (by rfl) T.z_isinstance bt_isinstance (pa_cons (pv 0) (pa_cons (pe_bltn (v := .ty "tuple") (by rfl) T.z_tuple bt_tuple rfl) pa_nil))) (pe_one (pe_cmpR op_eq (pe_callB (kc_len K) (by rfl) T.z_len bt_len (pa_cons (pv 0) pa_nil)) (pv 1) (nomark _)))))), ?_⟩)
  obtain ⟨a, us, rfl, ta, k⟩ := h
  walk_at "g"
  refine x_isiT ta ?_
  walk_at "g"
  refine ⟨a, us, rfl, .inr ta.sq, ?_⟩
  walk_at "g"
  rw [decide_eq_true rfl]
  exact k
theorem gcd_one (q : Rat) : ((Nat.gcd q.num.natAbs (q.den : Int).natAbs : Nat) : Int) = 1 := by
  rw [Int.natAbs_natCast, q.reduced]
  rfl
theorem ok_is_ratio (T : Tx K mg) : FnOk P w K mg base CX0 2 (He.ga K "is_ratio") (fdAt K (He.ga K "is_ratio")) ["value"] (sp_is_ratio K) := by
  refine FunD.ok T.F_is_ratio sc_is_ratio (fun vs H Q E h => by obtain ⟨x, q, rfl, _⟩ := h; rfl) (fun cdv A outer s H vs Q E hr h => ⟨_, PSs.nox (pss_cons (ps_if (PW.pt (pw_or (pt_not (pt_val (pe_call (ok_is_tuple_of T) (hr.mono (by decide)) (by rfl) T.m_is_tuple_of T.F_is_tuple_of.kp (b_is_tuple_of T) .nil pass0 (pa_cons (pv 0) (pa_cons pe_int pa_nil))))) (pw_or (pt_not (pt_val (pe_call (ok_is_whole T) (hr.mono (by decide)) (by rfl) T.m_is_whole T.F_is_whole.kp (b_is_whole T) .nil pass0 (pa_cons (pe_ix (ki_tup K) (pv 0) pe_int (fun _ _ => rfl)) pa_nil)))) (pw_or1 (pt_not (pt_val (pe_call (ok_is_whole T) (hr.mono (by decide)) (by rfl) T.m_is_whole T.F_is_whole.kp (b_is_whole T) .nil pass0 (pa_cons (pe_ix (ki_tup K) (pv 0) pe_int (fun _ _ => rfl)) pa_nil)))))))) (pss_one (ps_ret pe_bl)) pss_nil)
    (pss_one (ps_ret (pe_and (pe_cmpR op_gt (pe_ix (ki_tup K) (pv 0) pe_int (fun _ _ => rfl)) pe_int (nomark _)) (pe_one (pe_cmpR op_eq (pe_callBfun cr_gcd (by rfl) T.m_gcd (pa_cons (pe_ix (ki_tup K) (pv 0) pe_int (fun _ _ => rfl)) (pa_cons (pe_ix (ki_tup K) (pv 0) pe_int (fun _ _ => rfl)) pa_nil))) pe_int (nomark _))))))), ?_⟩)
  obtain ⟨x, q, rfl, hx, k⟩ := h
  obtain ⟨a, rfl, ta⟩ := is_rat hx
  walk_at "g"
  refine ⟨a, _, rfl, ta, ?_⟩
  walk_at "g"
  refine ⟨_, rfl, ?_⟩
  walk_at "g"
  refine ⟨_, rfl, ?_⟩
  walk_at "g"
  have hd := den_pos q
  refine x_t (decide_eq_true hd) ?_
  walk_at "g"
  rw [decide_eq_true (gcd_one q)]
  exact k
theorem ok_is_row (T : Tx K mg) : FnOk P w K mg base CX0 3 (He.ga K "is_row") (fdAt K (He.ga K "is_row")) ["value", "many"] (sp_is_row K) := by
  refine FunD.ok T.F_is_row sc_is_row (fun vs H Q E h => by obtain ⟨x, l, rfl, _⟩ := h; rfl) (fun cdv A outer s H vs Q E hr h => ⟨_, PSs.nox (pss_one (ps_ret (pe_and (pe_call (ok_is_tuple_of T) (hr.mono (by decide)) (by rfl) T.m_is_tuple_of T.F_is_tuple_of.kp (b_is_tuple_of T) .nil pass0 (pa_cons (pv 0) (pa_cons (pv 1) pa_nil))) (pe_one (pe_callB (kc_all K rfl) (by rfl) T.z_all bt_all (pa_cons (pe_lc (own := [("each", 2)]) rfl sc_is_row.nd (kp_sq K true (pv 0)) (blkOk_by (by kernel_rfl)) (fun _ _ _ _ _ => (pg_name (i := 2) sc_is_row.nd rfl (Or.inl rfl) (Or.inr rfl))) (fun _ _ _ _ _ => pts_nil) (fun _ _ _ _ _ => (pe_call (ok_is_ratio T) (hr.mono (by decide)) (by rfl) T.m_is_ratio T.F_is_ratio.kp (b_is_ratio T) .nil pass0 (pa_cons (pv 2) pa_nil)))) pa_nil)))))), ?_⟩)
  obtain ⟨x, l, rfl, hx, hn, k⟩ := h
  obtain ⟨a, us, rfl, ta, la⟩ := is_list hx
  have e1 := isl_len la
  walk_at "g"
  refine ⟨a, us, by rw [← e1]; rfl, ta, ?_⟩
  walk_at "g"
  refine ⟨a, rfl, ⟨us, ta.sqx⟩, x_lcL (K := K) (l.map fun _ => true) (walk_s true) (by rw [List.length_map, e1]) (by omega) (fun H2 e => sqx_same e ta.sqx) yat_same ?_ ?_⟩
  · rintro i x y H2 H3 R N gy e ⟨rfl, g1⟩ done
    obtain ⟨p, gp, hp⟩ := isl_get la g1
    rw [List.getElem?_map, gp] at gy
    cases gy
    refine x_name ⟨rfl, ?_⟩
    walk_at "g"
    exact ⟨_, p, rfl, Tp.mono (kp_same e) hp, done _ _ (Same.refl _) (.bl true)⟩
  · intro L H2 us nL e hL il
    walk_at "g"
    refine x_all hL il ?_
    rw [all_true]
    exact k _ e
theorem ok_are_chances (T : Tx K mg) : FnOk P w K mg base CX0 4 (He.ga K "are_chances") (fdAt K (He.ga K "are_chances")) ["value", "stands"] (sp_are_chances K) := by
  refine FunD.ok T.F_are_chances sc_are_chances (fun vs H Q E h => by obtain ⟨x, ch, n, rfl, _⟩ := h; rfl) (fun cdv A outer s H vs Q E hr h => ⟨_, PSs.nox (pss_cons (ps_if (PW.pt (pw_or (pt_not (pt_val (pe_callB (kc_isi K) (by rfl) T.z_isinstance bt_isinstance (pa_cons (pv 0) (pa_cons (pe_bltn (v := .ty "tuple") (by rfl) T.z_tuple bt_tuple rfl) pa_nil))))) (pw_or1 (pt_not (pt_val (pe_callB (kc_all K rfl) (by rfl) T.z_all bt_all (pa_cons (pe_lc (own := [("each", 8)]) rfl sc_are_chances.nd (kp_sq K true (pv 0)) (blkOk_by (by kernel_rfl)) (fun _ _ _ _ _ => (pg_name (i := 8) sc_are_chances.nd rfl (Or.inl rfl) (Or.inr rfl))) (fun _ _ _ _ _ => pts_nil) (fun _ _ _ _ _ => (pe_call (ok_is_tuple_of T) (hr.mono (by decide)) (by rfl) T.m_is_tuple_of T.F_is_tuple_of.kp (b_is_tuple_of T) .nil pass0 (pa_cons (pv 8) (pa_cons pe_int pa_nil))))) pa_nil))))))) (pss_one (ps_ret pe_bl)) pss_nil)
    (pss_cons (ps_if (pt_not (pt_val (pe_callB (kc_all K rfl) (by rfl) T.z_all bt_all (pa_cons (pe_lc (own := [("stand", 3), ("chance", 5)]) rfl sc_are_chances.nd (kp_sq K true (pv 0)) (blkOk_by (by kernel_rfl)) (fun _ _ _ _ _ => (kg_tup K (n := 2) rfl (pgs_cons (pg_name (i := 3) sc_are_chances.nd rfl (Or.inl rfl) (Or.inr rfl)) (pgs_cons (pg_name (i := 5) sc_are_chances.nd rfl (Or.inl rfl) (Or.inr rfl)) pgs_nil)))) (fun _ _ _ _ _ => pts_nil) (fun _ _ _ _ _ => (pe_and (pe_call (ok_is_between T) (hr.mono (by decide)) (by rfl) T.m_is_between T.F_is_between.kp (b_is_between T) .nil pass0 (pa_cons (pv 3) (pa_cons pe_int (pa_cons (pe_op op_sub (pv 1) pe_int) pa_nil)))) (pe_and (pe_call (ok_is_ratio T) (hr.mono (by decide)) (by rfl) T.m_is_ratio T.F_is_ratio.kp (b_is_ratio T) .nil pass0 (pa_cons (pv 5) pa_nil)) (pe_one (pe_cmpR op_gt (pe_ix (ki_tup K) (pv 5) pe_int (fun _ _ => rfl)) pe_int (nomark _))))))) pa_nil)))) (pss_one (ps_ret pe_bl)) pss_nil)
    (pss_cons (ps_setLc (i := 2) (own := [("stand", 3), ("_", 4)]) rfl sc_are_chances.nd rfl rfl (sw_true rfl rfl rfl (by decide +kernel)) (kp_sq K true (pv 0)) (blkOk_by (by kernel_rfl)) (fun _ _ _ _ _ => (kg_tup K (n := 2) rfl (pgs_cons (pg_name (i := 3) sc_are_chances.nd rfl (Or.inl rfl) (Or.inr rfl)) (pgs_cons (pg_name (i := 4) sc_are_chances.nd rfl (Or.inl rfl) (Or.inr rfl)) pgs_nil)))) (fun _ _ _ _ _ => pts_nil) (fun _ _ _ _ _ => (pv 3)))
    (pss_one (ps_ret (pe_and (pe_callB (kc_all K rfl) (by rfl) T.z_all bt_all (pa_cons (pe_lc (own := [("one", 6), ("two", 7)]) rfl sc_are_chances.nd (kp_zip K false false (by rfl) T.z_zip (pa_cons (pv 2) (pa_cons (pe_slice (ks_list K) (pv 2) (po_some pe_int) po_none) pa_nil))) (blkOk_by (by kernel_rfl)) (fun _ _ _ _ _ => (kg_tup K (n := 2) rfl (pgs_cons (pg_name (i := 6) sc_are_chances.nd rfl (Or.inl rfl) (Or.inr rfl)) (pgs_cons (pg_name (i := 7) sc_are_chances.nd rfl (Or.inl rfl) (Or.inr rfl)) pgs_nil)))) (fun _ _ _ _ _ => pts_nil) (fun _ _ _ _ _ => (pe_cmpR op_lt (pv 6) (pv 7) (nomark _)))) pa_nil)) (pe_one (pe_cmpR (ko_eqD K hr.units) (pe_call (ok_total T) (hr.mono (by decide)) (by rfl) T.m_total T.F_total.kp (b_total T) .nil pass0 (pa_cons (pe_lc (own := [("_", 4), ("chance", 5)]) rfl sc_are_chances.nd (kp_sq K true (pv 0)) (blkOk_by (by kernel_rfl)) (fun _ _ _ _ _ => (kg_tup K (n := 2) rfl (pgs_cons (pg_name (i := 4) sc_are_chances.nd rfl (Or.inl rfl) (Or.inr rfl)) (pgs_cons (pg_name (i := 5) sc_are_chances.nd rfl (Or.inl rfl) (Or.inr rfl)) pgs_nil)))) (fun _ _ _ _ _ => pts_nil) (fun _ _ _ _ _ => (pv 5))) pa_nil)) (pe_glob (v := .ref (He.ga K "ONE")) (by rfl) T.m_ONE rfl) (nomark _))))))))), ?_⟩)
  obtain ⟨x, ch, n, rfl, hx, co, k⟩ := h
  obtain ⟨a, us, rfl, ta, la⟩ := is_list hx
  have e1 := isl_len la
  have hn := co.len
  walk_at "g"
  refine x_isiT ta ?_
  walk_at "g"
  refine ⟨a, rfl, ⟨us, ta.sqx⟩, x_lcL (K := K) (ch.map fun _ => true) (walk_s true) (by rw [List.length_map, e1]) (by omega) (fun H2 e => sqx_same e ta.sqx) yat_same ?_ ?_⟩
  · rintro i x y H2 H3 R N gy e ⟨rfl, g1⟩ done
    obtain ⟨p, gp, hp⟩ := isl_get la g1
    rw [List.getElem?_map, gp] at gy
    cases gy
    obtain ⟨b, x1, x2, rfl, tb, h1, h2⟩ := is_pair hp
    refine x_name ⟨rfl, ?_⟩
    walk_at "g"
    exact ⟨b, _, rfl, tb.mono (kp_same e), done _ _ (Same.refl _) (.bl true)⟩
  · intro L H2 us2 nL e2 hL il
    walk_at "g"
    refine x_all hL il ?_
    rw [all_true]
    walk_at "g"
    refine ⟨a, rfl, ⟨us, sqx_same e2 ta.sqx⟩, x_lcL (K := K) (ch.map fun _ => true) (walk_s true) (by rw [List.length_map, e1]) (by omega) (fun H3 e => sqx_same (e2.trans e) ta.sqx) yat_same ?_ ?_⟩
    · rintro i x y H3 H4 R N gy e ⟨rfl, g1⟩ done
      obtain ⟨p, gp, hp⟩ := isl_get la g1
      rw [List.getElem?_map, gp] at gy
      cases gy
      obtain ⟨b, x1, x2, rfl, tb, h1, h2⟩ := is_pair hp
      have m := List.mem_of_getElem? gp
      have h3 := Tp.mono (kp_same (e2.trans e)) h2
      have c1 := co.lt p m
      have c2 := num_pos_of (co.pos p m)
      cases is_nat h1
      refine x_gpair (tb.mono (kp_same (e2.trans e))) ⟨rfl, ?_⟩
      walk_at "g"
      refine ⟨_, _, _, rfl, by omega, by omega, ?_⟩
      walk_at "g"
      refine ⟨_, p.2, rfl, h3, ?_⟩
      walk_at "g"
      rw [decide_eq_true c2]
      exact done _ _ (Same.refl _) (.bl true)
    · intro L3 H3 us3 nL3 e3 hL3 il3
      walk_at "g"
      refine x_all hL3 il3 ?_
      rw [all_true]
      walk_at "g"
      have e23 := e2.trans e3
      walk_at "g"
      refine ⟨a, rfl, ⟨us, sqx_same e23 ta.sqx⟩, x_lcL (K := K) (ch.map (·.1)) (walk_s true) (by rw [List.length_map, e1]) (by omega) (fun H3 e => sqx_same (e23.trans e) ta.sqx) yat_same ?_ ?_⟩
      · rintro i x y H3 H4 R N gy e ⟨rfl, g1⟩ done
        obtain ⟨p, gp, hp⟩ := isl_get la g1
        rw [List.getElem?_map, gp] at gy
        cases gy
        obtain ⟨b, x1, x2, rfl, tb, h1, h2⟩ := is_pair hp
        refine x_gpair (tb.mono (kp_same (e23.trans e))) ⟨rfl, ?_⟩
        walk_at "g"
        exact done _ _ (Same.refl _) (Tp.mono (kp_same (e23.trans e)) h1)
      · intro L4 H4 us4 nL4 e4 hL4 il4
        walk_at "g"
        refine ⟨L4, us4, rfl, SqL.of hL4, fun L5 nL5 => ?_⟩
        have hl4 := isl_len il4
        rw [List.length_map] at hl4
        have e25 := e23.trans (e4.trans (same_new (o := .lst (cutV us4 (some 1) none)) nL5))
        have n54 : L4 ≠ L5 := ne_of_none hL4 nL5
        walk_at "g"
        have sA : SqX K false (upd H4 L5 (.lst (cutV us4 (some 1) none))) L4 us4 := SqL.of (by rw [upd_ne n54]; exact hL4)
        have c0 : cutV us4 (some 1) none = us4.drop 1 := by
          by_cases z : 1 ≤ us4.length
          · exact cut_lo us4 1 z
          · have : us4 = [] := List.eq_nil_of_length_eq_zero (by omega)
            subst this
            rfl
        have sB : SqX K false (upd H4 L5 (.lst (cutV us4 (some 1) none))) L5 (us4.drop 1) := SqL.of (by rw [upd_same, c0])
        have e6 : (us4.drop 1).length = us4.length - 1 := List.length_drop ..
        refine ⟨L4, L5, us4, us4.drop 1, rfl, sA, sB, x_lcL (K := K) ((ch.drop 1).map fun _ => true) (walk_x rfl) (by rw [List.length_map, List.length_drop, List.length_drop, hl4]; omega) (by omega) (fun H3 e => ⟨sqx_same e sA, sqx_same e sB⟩) ypair_same ?_ ?_⟩
        · rintro i x y H5 H6 R N gy e ⟨Tp, u1, u2, rfl, nT, rfl, g1, g2⟩ done
          rw [List.getElem?_map] at gy
          have gt : y = true := by
            cases q : (ch.drop 1)[i]? <;> rw [q] at gy <;> cases gy
            rfl
          subst gt
          have g2 : (us4.drop 1)[i]? = some u2 := g2
          rw [List.getElem?_drop, Nat.add_comm] at g2
          obtain ⟨p1, f1, q1⟩ := isl_get il4 g1
          obtain ⟨p2, f2, q2⟩ := isl_get il4 g2
          cases is_nat q1
          cases is_nat q2
          rw [List.getElem?_map] at f1 f2
          obtain ⟨d1, z1, rfl⟩ := Option.map_eq_some_iff.mp f1
          obtain ⟨d2, z2, rfl⟩ := Option.map_eq_some_iff.mp f2
          have lt := co.asc i d1 d2 z1 z2
          refine x_gpair (.of upd_same) ⟨rfl, ?_⟩
          walk_at "g"
          rw [decide_eq_true (by omega)]
          exact done _ _ (Same.refl _) (.bl true)
        · intro L6 H6 us6 nL6 e6 hL6 il6
          walk_at "g"
          refine x_all hL6 il6 ?_
          rw [all_true]
          walk_at "g"
          have e26 := e25.trans e6
          refine ⟨a, rfl, ⟨us, sqx_same e26 ta.sqx⟩, x_lcL (K := K) (ch.map (·.2)) (walk_s true) (by rw [List.length_map, e1]) (by omega) (fun H3 e => sqx_same (e26.trans e) ta.sqx) yat_same ?_ ?_⟩
          · rintro i x y H3 H4 R N gy e ⟨rfl, g1⟩ done
            obtain ⟨p, gp, hp⟩ := isl_get la g1
            rw [List.getElem?_map, gp] at gy
            cases gy
            obtain ⟨b, x1, x2, rfl, tb, h1, h2⟩ := is_pair hp
            refine x_gpair (tb.mono (kp_same (e26.trans e))) ⟨rfl, ?_⟩
            walk_at "g"
            exact done _ _ (Same.refl _) (Tp.mono (kp_same (e26.trans e)) h2)
          · intro L7 H7 us7 nL7 e7 hL7 il7
            walk_at "g"
            refine ⟨false, L7, us7, _, rfl, SqL.of hL7, il7, co.so, fun v H8 e8 hv => ?_⟩
            walk_at "g"
            refine x_eqR hv (one_is T _) ?_
            rw [co.one]
            exact k _ ((e26.trans e7).trans e8)
end
end K66

/-! W4: what is a house; checks (own work) -/
namespace K66
open PySem PySem.Spec PyProof.Rows L2
local macro_rules | `(tactic| walk_at "kp") => `(tactic| first
  | exact Kp.refl _
  | assumption
  | (refine Kp.trans (by assumption) ?_; walk_at "kp")
  | (refine Kp.trans (kp_same (by assumption)) ?_; walk_at "kp"))
local macro_rules | `(tactic| walk_at "is") => `(tactic| first
  | assumption
  | (refine Tp.mono ?_ (by assumption); walk_at "kp"))
local macro_rules | `(tactic| walk_at "x") => `(tactic| with_reducible first
  | refine x_seq ?_ | refine x_ret ?_ | refine x_asg ?_ | refine x_ifs ?_ | refine x_drop ?_ | refine x_next ?_ | refine x_call ?_ | refine x_cb ?_ | refine x_cons ?_ | refine x_nil ?_
  | refine x_op ?_ | refine x_un ?_ | refine x_c ?_ | refine x_i0 ?_ | refine x_u ?_ | refine x_eqI ?_ | refine x_neI ?_ | refine x_test ?_ | refine x_tb ?_ | refine x_bl ?_ | refine x_not ?_
  | refine x_and ?_ | refine x_or ?_ | refine x_andV ?_ | refine x_orV ?_ | refine x_notV ?_ | refine x_if ?_ | refine x_tup ?_ | refine x_lst ?_ | refine x_name ?_ | refine x_gcd ?_ | refine x_for ?_ | refine x_par ?_ | refine x_par3 ?_ | refine x_two ?_ | refine x_three ?_ | refine x_lcd ?_ | refine x_yes ?_ | refine x_isq ?_ | refine x_izip ?_ | refine x_ienum ?_ | refine x_irng ?_ | refine x_kt ?_ | refine x_isiI ?_ | refine x_isiB ?_ | refine x_chain ?_ | refine x_sl ?_ | refine x_part ?_ | refine x_nopart ?_ | refine x_isint ?_ | refine x_bm ?_ | refine x_tix ?_ )
local macro_rules | `(tactic| walk_at "v") => `(tactic| ((with_reducible refine x_var (v := ?kv) ?k1 ?_); (case k1 => exact rfl)))
local macro_rules | `(tactic| walk_at "n") => `(tactic| first
  | ((with_reducible refine x_num (q := ?kv) ?k1 ?_); (case k1 => walk_at "is"))
  | ((with_reducible refine x_den (q := ?kv) ?k1 ?_); (case k1 => walk_at "is")))
local macro_rules | `(tactic| walk_at "m") => `(tactic| ((with_reducible refine x_i ?k1 ?_); (case k1 => first | exact mw_nd (by assumption) (by assumption) | exact mw_nn (by assumption) (by assumption) | exact mw_dd (by assumption) (by assumption))))
local macro_rules | `(tactic| walk_at "tu") => `(tactic| first
  | assumption
  | (refine TupA.mono ?_ (by assumption); walk_at "kp"))
local macro_rules | `(tactic| walk_at "i") => `(tactic| first
  | ((with_reducible refine x_ix0 (us := ?ku) (v := ?kv) ?k1 ?k2 ?_); (case k1 => walk_at "tu"); (case k2 => exact rfl))
  | ((with_reducible refine x_ix1 (us := ?ku) (v := ?kv) ?k1 ?k2 ?_); (case k1 => walk_at "tu"); (case k2 => exact rfl))
  | ((with_reducible refine x_ix2 (us := ?ku) (v := ?kv) ?k1 ?k2 ?_); (case k1 => walk_at "tu"); (case k2 => exact rfl)))
local macro_rules | `(tactic| walk_at "ht") => `(tactic| refine x_t (by first | rfl | (simp; done) | (simp; omega)) ?_)
local macro_rules | `(tactic| walk_at "hf") => `(tactic| refine x_f (by first | rfl | (simp; done) | (simp; omega)) ?_)
local macro_rules | `(tactic| walk_at "g") => `(tactic| repeat (first | walk_at "x" | walk_at "v" | walk_at "n" | walk_at "i" | walk_at "m" | ((with_reducible refine x_f ?k1 ?_); (case k1 => exact rfl)) | ((with_reducible refine x_t ?k1 ?_); (case k1 => exact rfl))))

structure DeedOk (n pays : Nat) (d : Deed) : Prop where
  c : ChOk n d.1
  g : d.2.length = pays
structure StandOk (n pays : Nat) (s : List Deed) : Prop where
  lo : 1 ≤ s.length
  hi : s.length ≤ 4
  d : ∀ d ∈ s, DeedOk n pays d
structure HouseOk (h : House) : Prop where
  s0 : 0 ≤ h.sh
  s1 : h.sh < 1
  p0 : 1 ≤ h.pays
  p1 : h.pays ≤ 4
  n0 : 1 ≤ h.st.length
  n1 : h.st.length ≤ 8
  st : ∀ s ∈ h.st, StandOk h.st.length h.pays s
def sp_is_deed (K : PySem.W.Frag) : Sp := fun vs H Q _ => ∃ (x : V) (d : Deed) (n pays : Nat), vs = [x, .int pays, .int n] ∧ Is K H x d ∧ DeedOk n pays d ∧ pays ≤ 1000 ∧ ∀ H', Same H H' → Q (.bl true) H'
def sp_is_stand (K : PySem.W.Frag) : Sp := fun vs H Q _ => ∃ (x : V) (s : List Deed) (n pays : Nat), vs = [x, .int pays, .int n] ∧ Is K H x s ∧ StandOk n pays s ∧ pays ≤ 1000 ∧ ∀ H', Same H H' → Q (.bl true) H'
def sp_is_share (K : PySem.W.Frag) : Sp := fun vs H Q _ => ∃ (x : V) (q : Rat), vs = [x] ∧ Is K H x q ∧ 0 ≤ q ∧ q < 1 ∧ Q (.bl true) H
def sp_is_house_by (K : PySem.W.Frag) : Sp := fun vs H Q _ => ∃ (x : V) (h : House), vs = [x] ∧ Is K H x h ∧ HouseOk h ∧ ∀ H', Same H H' → Q (.bl true) H'
def sp_check_house (K : PySem.W.Frag) : Sp := fun vs H Q _ => ∃ (x : V) (h : House), vs = [x] ∧ Is K H x h ∧ HouseOk h ∧ ∀ H', Same H H' → Q .non H'
def sp_check_between (K : PySem.W.Frag) : Sp := fun vs H Q _ => ∃ i lo hi : Int, vs = [.int i, .int lo, .int hi] ∧ lo ≤ i ∧ i ≤ hi ∧ Q .non H
def sp_check_steps (K : PySem.W.Frag) : Sp := fun vs H Q _ => ∃ i : Int, vs = [.int i] ∧ 0 ≤ i ∧ i ≤ 4 ∧ Q .non H
def sp_check_weights (K : PySem.W.Frag) : Sp := fun vs H Q _ => ∃ (x y : V) (h : House) (ws : List Rat), vs = [x, y] ∧ Is K H x h ∧ Is K H y ws ∧ ws.length = h.pays ∧ h.pays ≤ 1000 ∧ ∀ H', Same H H' → Q .non H'
def sp_check_start (K : PySem.W.Frag) : Sp := fun vs H Q _ => ∃ (x y : V) (h : House) (ws : List Rat), vs = [x, y] ∧ Is K H x h ∧ Is K H y ws ∧ ws.length = h.st.length ∧ h.st.length ≤ 1000 ∧ (∀ q ∈ ws, 0 ≤ q) ∧ SumOk ws ∧ rsum ws = 1 ∧ ∀ H', Same H H' → Q .non H'
section
variable {P : Program} {w : World} {K : PySem.W.Frag} {mg : Str → Option Value} {base : Heap}
theorem ok_is_deed (T : Tx K mg) : FnOk P w K mg base CX0 5 (He.ga K "is_deed") (fdAt K (He.ga K "is_deed")) ["value", "pays", "stands"] (sp_is_deed K) := by
  refine FunD.ok T.F_is_deed sc_is_deed (fun vs H Q E h => by obtain ⟨x, d, n, pays, rfl, _⟩ := h; rfl) (fun cdv A outer s H vs Q E hr h => ⟨_, PSs.nox (pss_one (ps_ret (pe_and (pe_call (ok_is_tuple_of T) (hr.mono (by decide)) (by rfl) T.m_is_tuple_of T.F_is_tuple_of.kp (b_is_tuple_of T) .nil pass0 (pa_cons (pv 0) (pa_cons pe_int pa_nil))) (pe_and (pe_call (ok_are_chances T) (hr.mono (by decide)) (by rfl) T.m_are_chances T.F_are_chances.kp (b_are_chances T) .nil pass0 (pa_cons (pe_ix (ki_tup K) (pv 0) pe_int (fun _ _ => rfl)) (pa_cons (pv 2) pa_nil))) (pe_one (pe_call (ok_is_row T) (hr.mono (by decide)) (by rfl) T.m_is_row T.F_is_row.kp (b_is_row T) .nil pass0 (pa_cons (pe_ix (ki_tup K) (pv 0) pe_int (fun _ _ => rfl)) (pa_cons (pv 1) pa_nil)))))))), ?_⟩)
  obtain ⟨x, d, n, pays, rfl, hx, hd, hp, k⟩ := h
  obtain ⟨a, x1, x2, rfl, ta, h1, h2⟩ := is_pair hx
  walk_at "g"
  refine ⟨a, _, rfl, ta, ?_⟩
  walk_at "g"
  refine ⟨x1, d.1, n, rfl, h1, hd.c, fun H1 e1 => ?_⟩
  have ta1 := ta.mono (kp_same e1)
  walk_at "g"
  refine ⟨x2, d.2, by rw [hd.g]; rfl, Tp.mono (kp_same e1) h2, by rw [hd.g]; exact hp, fun H2 e2 => k _ (e1.trans e2)⟩
theorem ok_is_stand (T : Tx K mg) : FnOk P w K mg base CX0 6 (He.ga K "is_stand") (fdAt K (He.ga K "is_stand")) ["value", "pays", "stands"] (sp_is_stand K) := by
  obtain ⟨_, m_MOST_DEEDS⟩ := T.i_MOST_DEEDS
  refine FunD.ok T.F_is_stand sc_is_stand (fun vs H Q E h => by obtain ⟨x, s, n, pays, rfl, _⟩ := h; rfl) (fun cdv A outer s H vs Q E hr h => ⟨_, PSs.nox (pss_cons (ps_if (PW.pt (pw_or (pt_not (pt_val (pe_callB (kc_isi K) (by rfl) T.z_isinstance bt_isinstance (pa_cons (pv 0) (pa_cons (pe_bltn (v := .ty "tuple") (by rfl) T.z_tuple bt_tuple rfl) pa_nil))))) (pw_or1 (pt_not (pt_val (pe_call (ok_is_between T) (hr.mono (by decide)) (by rfl) T.m_is_between T.F_is_between.kp (b_is_between T) .nil pass0 (pa_cons (pe_callB (kc_len K) (by rfl) T.z_len bt_len (pa_cons (pv 0) pa_nil)) (pa_cons pe_int (pa_cons (pe_glob (v := .int 4) (by rfl) m_MOST_DEEDS ⟨_, rfl⟩) pa_nil))))))))) (pss_one (ps_ret pe_bl)) pss_nil)
    (pss_one (ps_ret (pe_callB (kc_all K rfl) (by rfl) T.z_all bt_all (pa_cons (pe_lc (own := [("each", 3)]) rfl sc_is_stand.nd (kp_sq K true (pv 0)) (blkOk_by (by kernel_rfl)) (fun _ _ _ _ _ => (pg_name (i := 3) sc_is_stand.nd rfl (Or.inl rfl) (Or.inr rfl))) (fun _ _ _ _ _ => pts_nil) (fun _ _ _ _ _ => (pe_call (ok_is_deed T) (hr.mono (by decide)) (by rfl) T.m_is_deed T.F_is_deed.kp (b_is_deed T) .nil pass0 (pa_cons (pv 3) (pa_cons (pv 1) (pa_cons (pv 2) pa_nil)))))) pa_nil))))), ?_⟩)
  obtain ⟨x, st, n, pays, rfl, hx, hs, hp, k⟩ := h
  obtain ⟨a, us, rfl, ta, la⟩ := is_list hx
  have e1 := isl_len la
  have l1 := hs.lo
  have l2 := hs.hi
  walk_at "g"
  refine x_isiT ta ?_
  walk_at "g"
  refine x_lenT ta ?_
  walk_at "g"
  refine ⟨_, _, _, rfl, by omega, by omega, ?_⟩
  walk_at "g"
  refine ⟨a, rfl, ⟨us, ta.sqx⟩, x_lcL (K := K) (st.map fun _ => true) (walk_s true) (by rw [List.length_map, e1]) (by omega) (fun H2 e => sqx_same e ta.sqx) yat_same ?_ ?_⟩
  · rintro i x y H2 H3 R N gy e ⟨rfl, g1⟩ done
    obtain ⟨p, gp, hq⟩ := isl_get la g1
    rw [List.getElem?_map, gp] at gy
    cases gy
    refine x_name ⟨rfl, ?_⟩
    walk_at "g"
    exact ⟨x, p, n, pays, rfl, Tp.mono (kp_same e) hq, hs.d p (List.mem_of_getElem? gp), hp, fun H4 e4 => done _ _ e4 (.bl true)⟩
  · intro L H2 us nL e hL il
    walk_at "g"
    refine x_all hL il ?_
    rw [all_true]
    exact k _ e
theorem num_nn {q : Rat} (h : 0 ≤ q) : 0 ≤ q.num := Rat.num_nonneg.mpr h
theorem num_lt_den {q : Rat} (h : q < 1) : q.num < q.den := by
  have := (Rat.lt_iff q 1).mp h
  have e1 : (1 : Rat).num = 1 := rfl
  have e2 : (1 : Rat).den = 1 := rfl
  rw [e1, e2] at this
  omega
theorem ok_is_share (T : Tx K mg) : FnOk P w K mg base CX0 3 (He.ga K "is_share") (fdAt K (He.ga K "is_share")) ["value"] (sp_is_share K) := by
  refine FunD.ok T.F_is_share sc_is_share (fun vs H Q E h => by obtain ⟨x, q, rfl, _⟩ := h; rfl) (fun cdv A outer s H vs Q E hr h => ⟨_, PSs.nox (pss_one (ps_ret (pe_and (pe_call (ok_is_ratio T) (hr.mono (by decide)) (by rfl) T.m_is_ratio T.F_is_ratio.kp (b_is_ratio T) .nil pass0 (pa_cons (pv 0) pa_nil)) (pe_one (pe_chain op_le op_lt pe_int (pe_ix (ki_tup K) (pv 0) pe_int (fun _ _ => rfl)) (pe_ix (ki_tup K) (pv 0) pe_int (fun _ _ => rfl))))))), ?_⟩)
  obtain ⟨x, q, rfl, hx, h0, h1, k⟩ := h
  walk_at "g"
  refine ⟨x, q, rfl, hx, ?_⟩
  walk_at "g"
  refine x_t (decide_eq_true (num_nn h0)) ?_
  walk_at "g"
  rw [decide_eq_true (num_lt_den h1)]
  exact k
theorem ok_is_house_by (T : Tx K mg) : FnOk P w K mg base CX0 7 (He.ga K "is_house_by") (fdAt K (He.ga K "is_house_by")) ["value"] (sp_is_house_by K) := by
  obtain ⟨_, m_MOST_PAYS⟩ := T.i_MOST_PAYS
  obtain ⟨_, m_MOST_STANDS⟩ := T.i_MOST_STANDS
  refine FunD.ok T.F_is_house_by sc_is_house_by (fun vs H Q E h => by obtain ⟨x, q, rfl, _⟩ := h; rfl) (fun cdv A outer s H vs Q E hr h => ⟨_, PSs.nox (pss_cons (ps_if (PW.pt (pw_or (pt_not (pt_val (pe_call (ok_is_tuple_of T) (hr.mono (by decide)) (by rfl) T.m_is_tuple_of T.F_is_tuple_of.kp (b_is_tuple_of T) .nil pass0 (pa_cons (pv 0) (pa_cons pe_int pa_nil))))) (pw_or (pt_not (pt_val (pe_call (ok_is_share T) (hr.mono (by decide)) (by rfl) T.m_is_share T.F_is_share.kp (b_is_share T) .nil pass0 (pa_cons (pe_ix (ki_tup K) (pv 0) pe_int (fun _ _ => rfl)) pa_nil)))) (pw_or1 (pt_not (pt_val (pe_call (ok_is_between T) (hr.mono (by decide)) (by rfl) T.m_is_between T.F_is_between.kp (b_is_between T) .nil pass0 (pa_cons (pe_ix (ki_tup K) (pv 0) pe_int (fun _ _ => rfl)) (pa_cons pe_int (pa_cons (pe_glob (v := .int 4) (by rfl) m_MOST_PAYS ⟨_, rfl⟩) pa_nil)))))))))) (pss_one (ps_ret pe_bl)) pss_nil)
    (pss_cons (ps_set (i := 1) sc_is_house_by.nd rfl (by first | exact Or.inl rfl | exact Or.inr rfl) (pe_ix (ki_tup K) (pv 0) pe_int (fun _ _ => rfl)))
    (pss_cons (ps_if (PW.pt (pw_or (pt_not (pt_val (pe_callB (kc_isi K) (by rfl) T.z_isinstance bt_isinstance (pa_cons (pv 1) (pa_cons (pe_bltn (v := .ty "tuple") (by rfl) T.z_tuple bt_tuple rfl) pa_nil))))) (pw_or1 (pt_not (pt_val (pe_call (ok_is_between T) (hr.mono (by decide)) (by rfl) T.m_is_between T.F_is_between.kp (b_is_between T) .nil pass0 (pa_cons (pe_callB (kc_len K) (by rfl) T.z_len bt_len (pa_cons (pv 1) pa_nil)) (pa_cons pe_int (pa_cons (pe_glob (v := .int 8) (by rfl) m_MOST_STANDS ⟨_, rfl⟩) pa_nil))))))))) (pss_one (ps_ret pe_bl)) pss_nil)
    (pss_one (ps_ret (pe_callB (kc_all K rfl) (by rfl) T.z_all bt_all (pa_cons (pe_lc (own := [("each", 2)]) rfl sc_is_house_by.nd (kp_sq K true (pv 1)) (blkOk_by (by kernel_rfl)) (fun _ _ _ _ _ => (pg_name (i := 2) sc_is_house_by.nd rfl (Or.inl rfl) (Or.inr rfl))) (fun _ _ _ _ _ => pts_nil) (fun _ _ _ _ _ => (pe_call (ok_is_stand T) (hr.mono (by decide)) (by rfl) T.m_is_stand T.F_is_stand.kp (b_is_stand T) .nil pass0 (pa_cons (pv 2) (pa_cons (pe_ix (ki_tup K) (pv 0) pe_int (fun _ _ => rfl)) (pa_cons (pe_callB (kc_len K) (by rfl) T.z_len bt_len (pa_cons (pv 1) pa_nil)) pa_nil)))))) pa_nil))))))), ?_⟩)
  obtain ⟨x, h, rfl, hx, ho, k⟩ := h
  obtain ⟨a, x1, x2, x3, rfl, ta, h1, h2, h3⟩ := is_house hx
  cases is_nat h2
  obtain ⟨b, us, rfl, tb, lb⟩ := is_list h3
  have e1 := isl_len lb
  have c1 := ho.p0
  have c2 := ho.p1
  have c3 := ho.n0
  have c4 := ho.n1
  walk_at "g"
  refine ⟨a, _, rfl, ta, ?_⟩
  walk_at "g"
  refine ⟨x1, h.sh, rfl, h1, ho.s0, ho.s1, ?_⟩
  walk_at "g"
  refine ⟨_, _, _, rfl, by omega, by omega, ?_⟩
  walk_at "g"
  refine x_isiT tb ?_
  walk_at "g"
  refine x_lenT tb ?_
  walk_at "g"
  refine ⟨_, _, _, rfl, by omega, by omega, ?_⟩
  walk_at "g"
  refine ⟨b, rfl, ⟨us, tb.sqx⟩, x_lcL (K := K) (h.st.map fun _ => true) (walk_s true) (by rw [List.length_map, e1]) (by omega) (fun H2 e => sqx_same e tb.sqx) yat_same ?_ ?_⟩
  · rintro i x y H2 H3 R N gy e ⟨rfl, g1⟩ done
    obtain ⟨p, gp, hq⟩ := isl_get lb g1
    rw [List.getElem?_map, gp] at gy
    cases gy
    refine x_name ⟨rfl, ?_⟩
    walk_at "g"
    refine x_lenT (tb.mono (kp_same e)) ?_
    walk_at "g"
    exact ⟨x, p, us.length, h.pays, rfl, Tp.mono (kp_same e) hq, by rw [e1]; exact ho.st p (List.mem_of_getElem? gp), by omega, fun H4 e4 => done _ _ e4 (.bl true)⟩
  · intro L H2 us nL e hL il
    walk_at "g"
    refine x_all hL il ?_
    rw [all_true]
    exact k _ e
theorem ok_check_house (T : Tx K mg) : FnOk P w K mg base CX0 8 (He.ga K "check_house") (fdAt K (He.ga K "check_house")) ["value"] (sp_check_house K) := by
  refine FunD.ok T.F_check_house sc_check_house (fun vs H Q E h => by obtain ⟨x, q, rfl, _⟩ := h; rfl) (fun cdv A outer s H vs Q E hr h => ⟨_, PSs.nox (pss_one (ps_if (pt_not (pt_val (pe_call (ok_is_house_by T) (hr.mono (by decide)) (by rfl) T.m_is_house_by T.F_is_house_by.kp (b_is_house_by T) .nil pass0 (pa_cons (pv 0) pa_nil)))) (pss_one ps_never) pss_nil)), ?_⟩)
  obtain ⟨x, h, rfl, hx, ho, k⟩ := h
  walk_at "g"
  refine ⟨x, h, rfl, hx, ho, fun H1 e1 => ?_⟩
  walk_at "g"
  exact k _ e1
theorem ok_check_between (T : Tx K mg) : FnOk P w K mg base CX0 3 (He.ga K "check_between") (fdAt K (He.ga K "check_between")) ["value", "low", "high"] (sp_check_between K) := by
  refine FunD.ok T.F_check_between sc_check_between (fun vs H Q E h => by obtain ⟨x, lo, hi, rfl, _⟩ := h; rfl) (fun cdv A outer s H vs Q E hr h => ⟨_, PSs.nox (pss_one (ps_if (pt_not (pt_val (pe_call (ok_is_between T) (hr.mono (by decide)) (by rfl) T.m_is_between T.F_is_between.kp (b_is_between T) .nil pass0 (pa_cons (pv 0) (pa_cons (pv 1) (pa_cons (pv 2) pa_nil)))))) (pss_one ps_never) pss_nil)), ?_⟩)
  obtain ⟨x, lo, hi, rfl, h1, h2, k⟩ := h
  walk_at "g"
  refine ⟨x, lo, hi, rfl, h1, h2, ?_⟩
  walk_at "g"
  exact k
theorem ok_check_steps (T : Tx K mg) : FnOk P w K mg base CX0 4 (He.ga K "check_steps") (fdAt K (He.ga K "check_steps")) ["value"] (sp_check_steps K) := by
  obtain ⟨_, m_MOST_STEPS⟩ := T.i_MOST_STEPS
  refine FunD.ok T.F_check_steps sc_check_steps (fun vs H Q E h => by obtain ⟨x, rfl, _⟩ := h; rfl) (fun cdv A outer s H vs Q E hr h => ⟨_, PSs.nox (pss_one (ps_expr (pe_call (ok_check_between T) (hr.mono (by decide)) (by rfl) T.m_check_between T.F_check_between.kp (b_check_between T) .nil pass0 (pa_cons (pv 0) (pa_cons pe_int (pa_cons (pe_glob (v := .int 4) (by rfl) m_MOST_STEPS ⟨_, rfl⟩) pa_nil)))))), ?_⟩)
  obtain ⟨x, rfl, h1, h2, k⟩ := h
  walk_at "g"
  refine ⟨x, _, _, rfl, h1, h2, ?_⟩
  walk_at "g"
  exact k
theorem ok_check_weights (T : Tx K mg) : FnOk P w K mg base CX0 3 (He.ga K "check_weights") (fdAt K (He.ga K "check_weights")) ["house", "value"] (sp_check_weights K) := by
  refine FunD.ok T.F_check_weights sc_check_weights (fun vs H Q E h => by obtain ⟨x, y, h, ws, rfl, _⟩ := h; rfl) (fun cdv A outer s H vs Q E hr h => ⟨_, PSs.nox (pss_cons (ps_if (pt_not (pt_val (pe_call (ok_is_tuple_of T) (hr.mono (by decide)) (by rfl) T.m_is_tuple_of T.F_is_tuple_of.kp (b_is_tuple_of T) .nil pass0 (pa_cons (pv 1) (pa_cons (pe_ix (ki_tup K) (pv 0) pe_int (fun _ _ => rfl)) pa_nil))))) (pss_one ps_never) pss_nil)
    (pss_one (ps_for PassesOwn.never rfl (kp_enum K true (by rfl) T.z_enumerate (pa_cons (pv 1) pa_nil)) (kg_tup K (n := 2) rfl (pgs_cons (pg_name (i := 2) sc_check_weights.nd rfl (by first | exact Or.inl rfl | exact Or.inr rfl) (Or.inl rfl)) (pgs_cons (pg_name (i := 3) sc_check_weights.nd rfl (by first | exact Or.inl rfl | exact Or.inr rfl) (Or.inl rfl)) pgs_nil))) (pss_one (ps_if (pt_not (pt_val (pe_call (ok_is_ratio T) (hr.mono (by decide)) (by rfl) T.m_is_ratio T.F_is_ratio.kp (b_is_ratio T) .nil pass0 (pa_cons (pv 3) pa_nil)))) (pss_one ps_never) pss_nil))))), ?_⟩)
  obtain ⟨x, y, h, ws, rfl, hx, hy, hl, hp, k⟩ := h
  obtain ⟨a, x1, x2, x3, rfl, ta, h1, h2, h3⟩ := is_house hx
  cases is_nat h2
  obtain ⟨b, us, rfl, tb, lb⟩ := is_list hy
  have e1 := isl_len lb
  walk_at "g"
  refine ⟨b, us, by rw [e1, hl]; rfl, tb, ?_⟩
  walk_at "g"
  refine ⟨b, us, rfl, tb.sqx, for_it walk_e (fun i σ' H' => ∃ y2 y3, σ' = [some (.ref a), some (.ref b), y2, y3] ∧ Same H H') ⟨none, none, rfl, Same.refl _⟩ (fun i σ' H' _ ⟨y2, y3, _, e⟩ => sqx_same e tb.sqx) ?_ ?_⟩
  · rintro i x σ' H1 H2 hi ⟨y2, y3, rfl, e⟩ ⟨Tp', u1, u2, rfl, nT, rfl, g1, g2⟩
    cases g1
    obtain ⟨q, gq, hq⟩ := isl_get lb g2
    refine x_gpair (.of upd_same) ?_
    have e2 := e.trans (same_new (o := .tup [.int (i : Nat), u2]) nT)
    walk_at "g"
    refine ⟨u2, q, rfl, Tp.mono (kp_same e2) hq, ?_⟩
    walk_at "g"
    exact ⟨_, _, rfl, e2⟩
  · rintro σ' H1 ⟨y2, y3, rfl, e⟩
    exact k _ e
theorem ok_check_start (T : Tx K mg) : FnOk P w K mg base CX0 4 (He.ga K "check_start") (fdAt K (He.ga K "check_start")) ["house", "value"] (sp_check_start K) := by
  refine FunD.ok T.F_check_start sc_check_start (fun vs H Q E h => by obtain ⟨x, y, h, ws, rfl, _⟩ := h; rfl) (fun cdv A outer s H vs Q E hr h => ⟨_, PSs.nox (pss_cons (ps_if (pt_not (pt_val (pe_call (ok_is_tuple_of T) (hr.mono (by decide)) (by rfl) T.m_is_tuple_of T.F_is_tuple_of.kp (b_is_tuple_of T) .nil pass0 (pa_cons (pv 1) (pa_cons (pe_callB (kc_len K) (by rfl) T.z_len bt_len (pa_cons (pe_ix (ki_tup K) (pv 0) pe_int (fun _ _ => rfl)) pa_nil)) pa_nil))))) (pss_one ps_never) pss_nil)
    (pss_cons (ps_for PassesOwn.never rfl (kp_enum K true (by rfl) T.z_enumerate (pa_cons (pv 1) pa_nil)) (kg_tup K (n := 2) rfl (pgs_cons (pg_name (i := 2) sc_check_start.nd rfl (by first | exact Or.inl rfl | exact Or.inr rfl) (Or.inl rfl)) (pgs_cons (pg_name (i := 3) sc_check_start.nd rfl (by first | exact Or.inl rfl | exact Or.inr rfl) (Or.inl rfl)) pgs_nil))) (pss_one (ps_if (PW.pt (pw_or (pt_not (pt_val (pe_call (ok_is_ratio T) (hr.mono (by decide)) (by rfl) T.m_is_ratio T.F_is_ratio.kp (b_is_ratio T) .nil pass0 (pa_cons (pv 3) pa_nil)))) (pw_or1 (pt_cmpR op_lt (pe_ix (ki_tup K) (pv 3) pe_int (fun _ _ => rfl)) pe_int (nomark _))))) (pss_one ps_never) pss_nil)))
    (pss_one (ps_if (pt_cmpR (ko_neD K hr.units) (pe_call (ok_total T) (hr.mono (by decide)) (by rfl) T.m_total T.F_total.kp (b_total T) .nil pass0 (pa_cons (pv 1) pa_nil)) (pe_glob (v := .ref (He.ga K "ONE")) (by rfl) T.m_ONE rfl) (nomark _)) (pss_one ps_never) pss_nil)))), ?_⟩)
  obtain ⟨x, y, h, ws, rfl, hx, hy, hl, hp, h0, so, h1', k⟩ := h
  obtain ⟨a, x1, x2, x3, rfl, ta, h1, h2, h3⟩ := is_house hx
  obtain ⟨c, zs, rfl, tc, lc⟩ := is_list h3
  obtain ⟨b, us, rfl, tb, lb⟩ := is_list hy
  have e1 := isl_len lb
  have e2 := isl_len lc
  walk_at "g"
  refine x_lenT tc ?_
  walk_at "g"
  refine ⟨b, us, by rw [e1, hl, ← e2]; rfl, tb, ?_⟩
  walk_at "g"
  refine ⟨b, us, rfl, tb.sqx, for_it walk_e (fun i σ' H' => ∃ y2 y3, σ' = [some (.ref a), some (.ref b), y2, y3] ∧ Same H H') ⟨none, none, rfl, Same.refl _⟩ (fun i σ' H' _ ⟨y2, y3, _, e⟩ => sqx_same e tb.sqx) ?_ ?_⟩
  · rintro i x σ' H1 H2 hi ⟨y2, y3, rfl, e⟩ ⟨Tp', u1, u2, rfl, nT, rfl, g1, g2⟩
    cases g1
    obtain ⟨q, gq, hq⟩ := isl_get lb g2
    refine x_gpair (.of upd_same) ?_
    have e2 := e.trans (same_new (o := .tup [.int (i : Nat), u2]) nT)
    have hq2 := Tp.mono (kp_same e2) hq
    have n0 := num_nn (h0 q (List.mem_of_getElem? gq))
    walk_at "g"
    refine ⟨u2, q, rfl, hq2, ?_⟩
    walk_at "g"
    refine x_f (decide_eq_false (by omega)) ?_
    walk_at "g"
    exact ⟨_, _, rfl, e2⟩
  · rintro σ' H1 ⟨y2, y3, rfl, e⟩
    walk_at "g"
    refine ⟨true, b, us, _, rfl, sqx_same e tb.sqx, TpAll.mono (kp_same e) lb, so, fun v H2 e3 hv => ?_⟩
    walk_at "g"
    refine x_neR hv (one_is T _) ?_
    rw [h1']
    walk_at "g"
    exact k _ (e.trans e3)
end
end K66

/-! MathC: what the program computes, over lists; how large it grows (own work) -/
namespace K66
open PySem
/-! ### the greatest of a list -/
def lmax (l : List Rat) : Rat := l.foldl (fun a b => if a < b then b else a) (l.headD 0)
theorem fold_max : ∀ (l : List Rat) (a : Rat), (a ≤ l.foldl (fun a b => if a < b then b else a) a) ∧ (∀ x ∈ l, x ≤ l.foldl (fun a b => if a < b then b else a) a) ∧ l.foldl (fun a b => if a < b then b else a) a ∈ a :: l
  | [], a => ⟨Rat.le_refl, (by intro x h; cases h), by simp⟩
  | b :: r, a => by
    obtain ⟨h1, h2, h3⟩ := fold_max r (if a < b then b else a)
    have c1 : a ≤ if a < b then b else a := by
      split
      · grind
      · exact Rat.le_refl
    have c2 : b ≤ if a < b then b else a := by
      split
      · exact Rat.le_refl
      · grind
    refine ⟨Rat.le_trans c1 h1, fun x hx => ?_, ?_⟩
    · rcases List.mem_cons.mp hx with e | e
      · subst e; exact Rat.le_trans c2 h1
      · exact h2 x e
    · rw [List.foldl_cons]
      rcases List.mem_cons.mp h3 with e | e
      · rw [e]
        split <;> simp
      · simp [e]
theorem lmax_ge {l : List Rat} {x : Rat} (h : x ∈ l) : x ≤ lmax l := (fold_max l _).2.1 x h
theorem lmax_mem {l : List Rat} (h : l ≠ []) : lmax l ∈ l := by
  cases l with
  | nil => exact absurd rfl h
  | cons a r =>
    have := (fold_max (a :: r) a).2.2
    rcases List.mem_cons.mp this with e | e
    · show lmax (a :: r) ∈ a :: r
      have : lmax (a :: r) = a := e
      rw [this]
      simp
    · exact e
/-- the greatest so far -/
def upto (l : List Rat) (i : Nat) : Rat := (l.take i).foldl (fun a b => if a < b then b else a) (l.headD 0)
theorem upto_all (l : List Rat) : upto l l.length = lmax l := by
  unfold upto
  rw [List.take_length]
  rfl
theorem upto_snoc {l : List Rat} {i : Nat} {x : Rat} (h : l[i]? = some x) : upto l (i + 1) = if upto l i < x then x else upto l i := by
  unfold upto
  rw [List.take_add_one, h]
  exact List.foldl_append ..
/-! ### the mirrors -/
def worth (h : House) (ws v : List Rat) (d : Deed) : Rat := dotR ws d.2 + h.sh * rsum (d.1.map fun c => c.2 * v.getD c.1 0)
def wrow (h : House) (ws v : List Rat) : List Rat := h.st.map fun ds => lmax (ds.map (worth h ws v))
def wor (h : House) (ws : List Rat) : Nat → List Rat
  | 0 => List.replicate h.st.length 0
  | n + 1 => wrow h ws (wor h ws n)
def mtop (marks : List Nat) : Nat := marks.foldl max 0
def mmany (marks : List Nat) : Nat := mtop marks + 1
def holdAt (marks : List Nat) (m : Nat) (x : List Rat) : List Rat := List.zipWith (fun t q => if t = m then q else 0) marks x
def holdsBy (marks : List Nat) (x : List Rat) : List (List Rat) := (List.range (mmany marks)).map fun m => holdAt marks m x
def standsOf (marks : List Nat) (m : Nat) : List Nat := (List.range marks.length).filterMap fun s => if marks[s]? = some m then some s else none
def deedAt (st : List (List Deed)) (s d : Nat) : Deed := (st.getD s []).getD d ([], [])
def behind1 (x : Rat) (ch : Ch) (f : List Rat) : List Rat := ch.foldl (fun f c => f.set c.1 (f.getD c.1 0 + x * c.2)) f
def behindL (dim : Dim) (m : Nat) (x : List Rat) (d : Nat) : List Rat :=
  (standsOf dim.2 m).foldl (fun f s => behind1 (x.getD s 0) (deedAt dim.1.st s d).1 f) (List.replicate dim.2.length 0)
def gainsL (ws : List Rat) (dim : Dim) (m : Nat) (x : List Rat) (d : Nat) : Rat := rsum ((standsOf dim.2 m).map fun s => x.getD s 0 * dotR ws (deedAt dim.1.st s d).2)
def deedsN (dim : Dim) (m : Nat) : Nat := (dim.1.st.getD (dim.2.idxOf m) []).length
def bestR (ws : List Rat) (dim : Dim) : Nat → Nat → List Rat → Rat
  | 0, _, _ => 0
  | n + 1, m, x => if x.all (fun q => decide (q = 0)) = true then 0 else
    lmax ((List.range (deedsN dim m)).map fun d => gainsL ws dim m x d + dim.1.sh * rsum ((List.range (mmany dim.2)).map fun j => bestR ws dim n j (holdAt dim.2 j (behindL dim m x d))))
def aheadL (ws : List Rat) (dim : Dim) (n : Nat) (x : List Rat) : List Rat := (List.range (mmany dim.2)).map fun j => bestR ws dim n j (holdAt dim.2 j x)
def valueR (ws : List Rat) (dim : Dim) (n m : Nat) (x : List Rat) (d : Nat) : Rat := gainsL ws dim m x d + dim.1.sh * rsum (aheadL ws dim n (behindL dim m x d))
theorem bestR_succ (ws : List Rat) (dim : Dim) (n m : Nat) (x : List Rat) : bestR ws dim (n + 1) m x = if x.all (fun q => decide (q = 0)) = true then 0 else lmax ((List.range (deedsN dim m)).map (valueR ws dim n m x)) := rfl
def lookR (ws : List Rat) (dim : Dim) (n : Nat) (x : List Rat) : Rat := rsum (aheadL ws dim n x)
/-! ### sizes -/
structure HSz (h : House) : Prop where
  sh : Bd 2100 2100 h.sh
  ch : ∀ s ∈ h.st, ∀ d ∈ s, ∀ c ∈ d.1, Bd 2520 2520 c.2
  c8 : ∀ s ∈ h.st, ∀ d ∈ s, d.1.length ≤ 8
  g : ∀ s ∈ h.st, ∀ d ∈ s, ∀ q ∈ d.2, Bd 84 (2 ^ 71) q
  g4 : ∀ s ∈ h.st, ∀ d ∈ s, d.2.length ≤ 4
def All (D N : Nat) (l : List Rat) : Prop := ∀ q ∈ l, Bd D N q
def EE (n : Nat) : Nat := 37340352000 ^ n
def GG (n : Nat) : Nat := 2 ^ (200 + 64 * n)
theorem ee_pos (n : Nat) : 0 < EE n := Nat.pow_pos (by decide)
theorem ee_succ (n : Nat) : EE (n + 1) = EE n * 37340352000 := Nat.pow_succ ..
theorem gg_succ (n : Nat) : GG (n + 1) = 18446744073709551616 * GG n := by
  unfold GG
  rw [show 200 + 64 * (n + 1) = 64 + (200 + 64 * n) by omega, Nat.pow_add]
theorem gg_pos (n : Nat) : 0 < GG n := Nat.pow_pos (by decide)
theorem ee_gg (n : Nat) : 2 ^ 170 * EE n ≤ GG n := by
  have h1 : EE n ≤ (2 ^ 36) ^ n := Nat.pow_le_pow_left (by decide) n
  have h2 : (2 ^ 36) ^ n = 2 ^ (36 * n) := (Nat.pow_mul ..).symm
  rw [h2] at h1
  refine Nat.le_trans (Nat.mul_le_mul_left _ h1) ?_
  rw [← Nat.pow_add]
  exact Nat.pow_le_pow_right (by decide) (by omega)
theorem ee_lt {n : Nat} (h : n ≤ 30) : EE n < 2 ^ 2300 := by
  have h1 : EE n ≤ (2 ^ 36) ^ n := Nat.pow_le_pow_left (by decide) n
  have h2 : (2 ^ 36) ^ n = 2 ^ (36 * n) := (Nat.pow_mul ..).symm
  rw [h2] at h1
  exact Nat.lt_of_le_of_lt h1 (Nat.pow_lt_pow_right (by decide) (by omega))
theorem gg_lt {n : Nat} (h : n ≤ 30) : GG n < 2 ^ 2300 := Nat.pow_lt_pow_right (by decide) (by omega)
theorem p2300 : (2 : Nat) ^ 3000 = 2 ^ 700 * 2 ^ 2300 := by rw [← Nat.pow_add]
theorem small3000 {k N : Nat} (hk : k ≤ 2 ^ 600) (h : N < 2 ^ 2300) : k * N < 2 ^ 3000 := by
  have h1 : k * N ≤ 2 ^ 600 * 2 ^ 2300 := Nat.mul_le_mul hk (Nat.le_of_lt h)
  rw [← Nat.pow_add] at h1
  exact Nat.lt_of_le_of_lt h1 (Nat.pow_lt_pow_right (by decide) (by decide))
theorem All.mem {D N : Nat} {l : List Rat} (h : All D N l) (hD : 0 < D) (i : Nat) : Bd D N (l.getD i 0) := by
  rw [List.getD_eq_getElem?_getD]
  cases q : l[i]? with
  | none => exact Bd.zero hD N
  | some x => exact h x (List.mem_of_getElem? q)
theorem mem_zipWith {f : Rat → Rat → Rat} {z : Rat} : ∀ {a b : List Rat}, z ∈ List.zipWith f a b → ∃ x ∈ a, ∃ y ∈ b, z = f x y
  | [], _, h => by simp at h
  | _ :: _, [], h => by simp at h
  | x :: a, y :: b, h => by
    rw [List.zipWith_cons_cons] at h
    rcases List.mem_cons.mp h with e | e
    · exact ⟨x, by simp, y, by simp, e⟩
    · obtain ⟨p, hp, q, hq, r⟩ := mem_zipWith e
      exact ⟨p, by simp [hp], q, by simp [hq], r⟩
theorem dot_all {ws gs : List Rat} (h : All 84 (2 ^ 71) ws) (g : All 84 (2 ^ 71) gs) : All 7056 (2 ^ 142) (List.zipWith (fun a b => a * b) ws gs) := fun q hq => by
  obtain ⟨a, ha, b, hb, rfl⟩ := mem_zipWith hq
  have := (h a ha).mul (g b hb)
  rwa [← Nat.pow_add] at this
theorem p142 : (2 : Nat) ^ 142 < 2 ^ 2300 := Nat.pow_lt_pow_right (by decide) (by decide)
theorem dot_so {ws gs : List Rat} (h : All 84 (2 ^ 71) ws) (g : All 84 (2 ^ 71) gs) (hl : ws.length ≤ 4) : SumOk (List.zipWith (fun a b => a * b) ws gs) := by
  refine ⟨7056, 2 ^ 142, ⟨by decide, Nat.lt_of_lt_of_le (show 7056 < 2 ^ 100 by decide) (Nat.pow_le_pow_right (by decide) (by decide))⟩, ⟨small3000 ?_ p142, Nat.lt_trans p142 (Nat.pow_lt_pow_right (by decide) (by decide))⟩, dot_all h g⟩
  rw [List.length_zipWith]
  exact Nat.le_trans (Nat.le_trans (Nat.min_le_left _ _) hl) (show 2 ^ 2 ≤ 2 ^ 600 from Nat.pow_le_pow_right (by decide) (by decide))
theorem dot_bd {ws gs : List Rat} (h : All 84 (2 ^ 71) ws) (g : All 84 (2 ^ 71) gs) (hl : ws.length ≤ 4) : Bd 7056 (2 ^ 144) (dotR ws gs) := by
  refine (bd_rsum (by decide) _ (dot_all h g)).mono ?_
  rw [List.length_zipWith, show (2 : Nat) ^ 144 = 4 * 2 ^ 142 by rw [show (4 : Nat) = 2 ^ 2 from rfl, ← Nat.pow_add]]
  exact Nat.mul_le_mul_right _ (Nat.le_trans (Nat.min_le_left _ _) hl)
theorem Bd.sz3 {D N k j : Nat} {q : Rat} (h : Bd (k * D) (j * N) q) (hk : k ≤ 2 ^ 600) (hj : j ≤ 2 ^ 600) (hD : D < 2 ^ 2300) (hN : N < 2 ^ 2300) : Sz q := h.sz (small3000 hk hD) (small3000 hj hN)
theorem Bd.small {D N : Nat} {q : Rat} (h : Bd D N q) (hD : D ≤ 2 ^ 600) (hN : N ≤ 2 ^ 600) : Sz q :=
  h.sz (Nat.lt_of_le_of_lt hD (Nat.pow_lt_pow_right (by decide) (by decide))) (Nat.lt_of_le_of_lt hN (Nat.pow_lt_pow_right (by decide) (by decide)))
theorem p600 {k : Nat} (h : k ≤ 2 ^ 100) : k ≤ 2 ^ 600 := Nat.le_trans h (Nat.pow_le_pow_right (by decide) (by decide))
/-! ### worths -/
theorem prod_all {h : House} (hs : HSz h) {s : List Deed} {d : Deed} (m1 : s ∈ h.st) (m2 : d ∈ s) {D N : Nat} {v : List Rat} (hD : 0 < D) (hv : All D N v) : All (2520 * D) (2520 * N) (d.1.map fun c => c.2 * v.getD c.1 0) := fun q hq => by
  obtain ⟨c, hc, rfl⟩ := List.mem_map.mp hq
  exact (hs.ch s m1 d m2 c hc).mul (hv.mem hD c.1)
theorem prod_so {h : House} (hs : HSz h) {s : List Deed} {d : Deed} (m1 : s ∈ h.st) (m2 : d ∈ s) {D N : Nat} {v : List Rat} (hD : 0 < D) (hv : All D N v) (d3 : D < 2 ^ 2300) (n3 : N < 2 ^ 2300) : SumOk (d.1.map fun c => c.2 * v.getD c.1 0) := by
  refine ⟨2520 * D, 2520 * N, ⟨by omega, small3000 (p600 (by decide)) d3⟩, ⟨?_, small3000 (p600 (by decide)) n3⟩, prod_all hs m1 m2 hD hv⟩
  rw [List.length_map, ← Nat.mul_assoc]
  have := hs.c8 s m1 d m2
  exact small3000 (p600 (Nat.le_trans (Nat.mul_le_mul_right 2520 this) (by decide))) n3
theorem ahead_bd {h : House} (hs : HSz h) {s : List Deed} {d : Deed} (m1 : s ∈ h.st) (m2 : d ∈ s) {D N : Nat} {v : List Rat} (hD : 0 < D) (hv : All D N v) : Bd (2520 * D) (20160 * N) (rsum (d.1.map fun c => c.2 * v.getD c.1 0)) := by
  refine (bd_rsum (by omega) _ (prod_all hs m1 m2 hD hv)).mono ?_
  rw [List.length_map]
  have := hs.c8 s m1 d m2
  calc d.1.length * (2520 * N) ≤ 8 * (2520 * N) := Nat.mul_le_mul_right _ this
    _ = 20160 * N := by omega
theorem worth_bd {h : House} (hs : HSz h) {ws : List Rat} (hw : All 84 (2 ^ 71) ws) (hl : ws.length ≤ 4) {s : List Deed} {d : Deed} (m1 : s ∈ h.st) (m2 : d ∈ s) {n : Nat} {v : List Rat} (hv : All (EE n) (GG n) v) : Bd (EE (n + 1)) (GG (n + 1)) (worth h ws v d) := by
  have h1 := (dot_bd hw (hs.g s m1 d m2) hl).up (k := 5292000 * EE n) (Nat.mul_pos (by decide) (ee_pos n))
  have h2 := (hs.sh.mul (ahead_bd hs m1 m2 (ee_pos n) hv)).upL (k := 7056) (by decide)
  have e1 : 7056 * (5292000 * EE n) = EE (n + 1) := by rw [ee_succ]; omega
  have e2 : 7056 * (2100 * (2520 * EE n)) = EE (n + 1) := by rw [ee_succ]; omega
  rw [e1] at h1
  rw [e2] at h2
  refine (h1.add h2).mono ?_
  rw [gg_succ]
  have h3 := ee_gg n
  have h4 : 2 ^ 144 * (5292000 * EE n) ≤ GG n := by
    refine Nat.le_trans ?_ h3
    rw [← Nat.mul_assoc]
    exact Nat.mul_le_mul_right _ (by decide)
  generalize hA : 2 ^ 144 * (5292000 * EE n) = A at h4 ⊢
  omega
theorem wor_all {h : House} (hs : HSz h) (ne : ∀ s ∈ h.st, s ≠ []) {ws : List Rat} (hw : All 84 (2 ^ 71) ws) (hl : ws.length ≤ 4) : ∀ n, All (EE n) (GG n) (wor h ws n)
  | 0 => fun q hq => by
    rw [show wor h ws 0 = List.replicate h.st.length 0 from rfl] at hq
    rw [List.eq_of_mem_replicate hq]
    exact Bd.zero (ee_pos 0) _
  | n + 1 => fun q hq => by
    obtain ⟨s, m, rfl⟩ := List.mem_map.mp hq
    have : lmax (s.map (worth h ws (wor h ws n))) ∈ s.map (worth h ws (wor h ws n)) := lmax_mem (by simpa using ne s m)
    obtain ⟨d, md, e⟩ := List.mem_map.mp this
    rw [← e]
    exact worth_bd hs hw hl m md (wor_all hs ne hw hl n)
theorem wor_len (h : House) (ws : List Rat) : ∀ n, (wor h ws n).length = h.st.length
  | 0 => by simp [wor]
  | n + 1 => by simp [wor, wrow]
/-! ### sights -/
theorem All.mono {D N M : Nat} {l : List Rat} (h : All D N l) (hn : N ≤ M) : All D M l := fun q hq => (h q hq).mono hn
theorem hold_all {D N : Nat} {marks : List Nat} {m : Nat} {x : List Rat} (hD : 0 < D) (h : All D N x) : All D N (holdAt marks m x) := by
  intro q hq
  have gen : ∀ (a : List Nat) (b : List Rat), (∀ q ∈ b, Bd D N q) → ∀ q ∈ List.zipWith (fun t q => if t = m then q else 0) a b, Bd D N q := by
    intro a
    induction a with
    | nil => intro b _ q hq; simp at hq
    | cons t a ih =>
      intro b hb q hq
      cases b with
      | nil => simp at hq
      | cons y b =>
        rw [List.zipWith_cons_cons] at hq
        rcases List.mem_cons.mp hq with e | e
        · rw [e]
          split
          · exact hb y (by simp)
          · exact Bd.zero hD N
        · exact ih b (fun q hq => hb q (by simp [hq])) q e
  exact gen marks x h q hq
theorem behind1_len (x : Rat) : ∀ (ch : Ch) (f : List Rat), (behind1 x ch f).length = f.length
  | [], _ => rfl
  | c :: ch, f => by
    show (behind1 x ch (f.set c.1 _)).length = _
    rw [behind1_len x ch, List.length_set]
theorem behind1_snoc (x : Rat) (ch : Ch) (c : Nat × Rat) (f : List Rat) : behind1 x (ch ++ [c]) f = (behind1 x ch f).set c.1 ((behind1 x ch f).getD c.1 0 + x * c.2) := by
  unfold behind1
  rw [List.foldl_append]
  rfl
theorem set_all {D N : Nat} {f : List Rat} {i : Nat} {y : Rat} (h : All D N f) (hy : Bd D N y) : All D N (f.set i y) := fun q hq => by
  rcases List.mem_or_eq_of_mem_set hq with e | e
  · exact h q e
  · rw [e]; exact hy
theorem behind1_all {D N : Nat} {x : Rat} (hD : 0 < D) (hx : Bd D N x) : ∀ (ch : Ch) (k : Nat) (f : List Rat), (∀ c ∈ ch, Bd 2520 2520 c.2) → All (D * 2520) (k * (N * 2520)) f → All (D * 2520) ((k + ch.length) * (N * 2520)) (behind1 x ch f)
  | [], _, _, _, h => h
  | c :: ch, k, f, hc, h => by
    have h1 := (h.mem (by omega) c.1).add (hx.mul (hc c (by simp)))
    have e : k * (N * 2520) + N * 2520 = (k + 1) * (N * 2520) := by rw [Nat.add_mul, Nat.one_mul]
    rw [e] at h1
    have h2 := set_all (i := c.1) (h.mono (M := (k + 1) * (N * 2520)) (Nat.mul_le_mul_right _ (by omega))) h1
    have := behind1_all hD hx ch (k + 1) _ (fun c h => hc c (by simp [h])) h2
    rw [show k + 1 + ch.length = k + (c :: ch).length by rw [List.length_cons]; omega] at this
    exact this
theorem deedAt_mem {st : List (List Deed)} {s d : Nat} (h : d < (st.getD s []).length) : st.getD s [] ∈ st ∧ deedAt st s d ∈ st.getD s [] := by
  have h1 : s < st.length := by
    by_cases q : s < st.length
    · exact q
    · rw [List.getD_eq_getElem?_getD, List.getElem?_eq_none (by omega)] at h
      simp at h
  refine ⟨?_, ?_⟩
  · rw [List.getD_eq_getElem?_getD, List.getElem?_eq_getElem h1]
    exact List.getElem_mem h1
  · unfold deedAt
    rw [List.getD_eq_getElem?_getD (i := d), List.getElem?_eq_getElem h]
    exact List.getElem_mem h
/-- the states of a mark have its deeds -/
def Even (dim : Dim) : Prop := ∀ s m, dim.2[s]? = some m → (dim.1.st.getD s []).length = deedsN dim m
theorem standsOf_mem {marks : List Nat} {m s : Nat} : s ∈ standsOf marks m ↔ marks[s]? = some m := by
  unfold standsOf
  rw [List.mem_filterMap]
  constructor
  · rintro ⟨a, ha, e⟩
    split at e
    · cases e; assumption
    · cases e
  · intro h
    refine ⟨s, List.mem_range.mpr ?_, by rw [if_pos h]⟩
    exact (List.getElem?_eq_some_iff.mp h).1
theorem standsOf_len (marks : List Nat) (m : Nat) : (standsOf marks m).length ≤ marks.length := by
  have := List.length_filterMap_le (fun s => if marks[s]? = some m then some s else none) (List.range marks.length)
  rwa [List.length_range] at this
theorem behind_all {h : Dim} (hs : HSz h.1) (ev : Even h) {D N m d : Nat} {x : List Rat} (hD : 0 < D) (hx : All D N x) (hd : d < deedsN h m) :
    ∀ (ss : List Nat) (k : Nat) (f : List Rat), (∀ s ∈ ss, h.2[s]? = some m) → All (D * 2520) (k * 8 * (N * 2520)) f → All (D * 2520) ((k + ss.length) * 8 * (N * 2520)) (ss.foldl (fun f s => behind1 (x.getD s 0) (deedAt h.1.st s d).1 f) f)
  | [], _, _, _, hf => hf
  | s :: ss, k, f, hm, hf => by
    have e1 := ev s m (hm s (by simp))
    obtain ⟨m1, m2⟩ := deedAt_mem (st := h.1.st) (s := s) (d := d) (by omega)
    have h1 := behind1_all hD (hx.mem hD s) (deedAt h.1.st s d).1 (k * 8) f (hs.ch _ m1 _ m2) hf
    have c8 := hs.c8 _ m1 _ m2
    have h2 := h1.mono (M := (k + 1) * 8 * (N * 2520)) (Nat.mul_le_mul_right _ (by omega))
    have := behind_all hs ev hD hx hd ss (k + 1) _ (fun s h => hm s (by simp [h])) h2
    rw [show k + 1 + ss.length = k + (s :: ss).length by rw [List.length_cons]; omega] at this
    exact this
theorem behindL_all {h : Dim} (hs : HSz h.1) (ev : Even h) (h8 : h.2.length ≤ 8) {D N m d : Nat} {x : List Rat} (hD : 0 < D) (hx : All D N x) (hd : d < deedsN h m) : All (D * 2520) (161280 * N) (behindL h m x d) := by
  have := behind_all hs ev hD hx hd (standsOf h.2 m) 0 (List.replicate h.2.length 0) (fun s q => standsOf_mem.mp q) (fun q hq => by rw [List.eq_of_mem_replicate hq]; exact Bd.zero (by omega) _)
  refine this.mono ?_
  have h1 := standsOf_len h.2 m
  calc (0 + (standsOf h.2 m).length) * 8 * (N * 2520) ≤ 64 * (N * 2520) := Nat.mul_le_mul_right _ (by omega)
    _ = 161280 * N := by omega
theorem behindL_len (dim : Dim) (m : Nat) (x : List Rat) (d : Nat) : (behindL dim m x d).length = dim.2.length := by
  unfold behindL
  have gen : ∀ (ss : List Nat) (f : List Rat), (ss.foldl (fun f s => behind1 (x.getD s 0) (deedAt dim.1.st s d).1 f) f).length = f.length := by
    intro ss
    induction ss with
    | nil => intro f; rfl
    | cons s ss ih => intro f; rw [List.foldl_cons, ih, behind1_len]
  rw [gen, List.length_replicate]
theorem gprod_all {ws : List Rat} (hw : All 84 (2 ^ 71) ws) (hl : ws.length ≤ 4) {h : Dim} (hs : HSz h.1) (ev : Even h) {D N m d : Nat} {x : List Rat} (hD : 0 < D) (hx : All D N x) (hd : d < deedsN h m) :
    All (D * 7056) (N * 2 ^ 144) ((standsOf h.2 m).map fun s => x.getD s 0 * dotR ws (deedAt h.1.st s d).2) := fun q hq => by
  obtain ⟨s, ms, rfl⟩ := List.mem_map.mp hq
  have e1 := ev s m (standsOf_mem.mp ms)
  obtain ⟨m1, m2⟩ := deedAt_mem (st := h.1.st) (s := s) (d := d) (by omega)
  exact (hx.mem hD s).mul (dot_bd hw (hs.g _ m1 _ m2) hl)
theorem gains_bd {ws : List Rat} (hw : All 84 (2 ^ 71) ws) (hl : ws.length ≤ 4) {h : Dim} (hs : HSz h.1) (ev : Even h) (h8 : h.2.length ≤ 8) {D N m d : Nat} {x : List Rat} (hD : 0 < D) (hx : All D N x) (hd : d < deedsN h m) :
    Bd (D * 7056) (8 * (N * 2 ^ 144)) (gainsL ws h m x d) := by
  refine (bd_rsum (by omega) _ (gprod_all hw hl hs ev hD hx hd)).mono ?_
  rw [List.length_map]
  exact Nat.mul_le_mul_right _ (Nat.le_trans (standsOf_len _ _) h8)
theorem ahead_all {ws : List Rat} {h : Dim} {n D N : Nat} (hD : 0 < D) {f : List Rat} (hf : All D N f) (ih : ∀ (m : Nat) (x : List Rat), All D N x → m < mmany h.2 → Bd (D * EE n) (N * GG n) (bestR ws h n m x)) : All (D * EE n) (N * GG n) (aheadL ws h n f) := fun q hq => by
  obtain ⟨j, hj, rfl⟩ := List.mem_map.mp hq
  exact ih j _ (hold_all hD hf) (List.mem_range.mp hj)
theorem value_bd {ws : List Rat} (hw : All 84 (2 ^ 71) ws) (hl : ws.length ≤ 4) {h : Dim} (hs : HSz h.1) (ev : Even h) (h8 : h.2.length ≤ 8) (hm : mmany h.2 ≤ 8) {n D N m d : Nat} {x : List Rat} (hD : 0 < D) (hx : All D N x) (hd : d < deedsN h m)
    (ah : All (D * 2520 * EE n) (161280 * N * GG n) (aheadL ws h n (behindL h m x d))) : Bd (D * EE (n + 1)) (N * GG (n + 1)) (valueR ws h n m x d) := by
  have h1 := (gains_bd hw hl hs ev h8 hD hx hd).up (k := 5292000 * EE n) (Nat.mul_pos (by decide) (ee_pos n))
  have p : 0 < D * 2520 * EE n := Nat.mul_pos (by omega) (ee_pos n)
  have h2 := (hs.sh.mul (bd_rsum p _ ah)).upL (k := 7056) (by decide)
  have e1 : D * 7056 * (5292000 * EE n) = D * EE (n + 1) := by
    rw [ee_succ, Nat.mul_assoc]
    congr 1
    omega
  have e2 : 7056 * (2100 * (D * 2520 * EE n)) = D * EE (n + 1) := by
    rw [ee_succ, Nat.mul_assoc D]
    have : 7056 * (2100 * (D * (2520 * EE n))) = D * (7056 * (2100 * (2520 * EE n))) := by
      rw [Nat.mul_left_comm 2100 D, Nat.mul_left_comm 7056 D]
    rw [this]
    congr 1
    omega
  rw [e1] at h1
  rw [e2] at h2
  refine (h1.add h2).mono ?_
  rw [gg_succ]
  have h3 := ee_gg n
  have h4 : 8 * 2 ^ 144 * (5292000 * EE n) ≤ GG n := by
    refine Nat.le_trans ?_ h3
    rw [← Nat.mul_assoc]
    exact Nat.mul_le_mul_right _ (by decide)
  have h5 : 8 * (N * 2 ^ 144) * (5292000 * EE n) ≤ N * GG n := by
    have : 8 * (N * 2 ^ 144) * (5292000 * EE n) = N * (8 * 2 ^ 144 * (5292000 * EE n)) := by
      rw [Nat.mul_left_comm 8 N, Nat.mul_assoc N]
    rw [this]
    exact Nat.mul_le_mul_left _ h4
  have h6 : (aheadL ws h n (behindL h m x d)).length ≤ 8 := by
    unfold aheadL
    rw [List.length_map, List.length_range]
    exact hm
  have h7 : 7056 * (2100 * ((aheadL ws h n (behindL h m x d)).length * (161280 * N * GG n))) ≤ 7056 * (2100 * (8 * (161280 * (N * GG n)))) := by
    rw [Nat.mul_assoc 161280]
    exact Nat.mul_le_mul_left _ (Nat.mul_le_mul_left _ (Nat.mul_le_mul_right _ h6))
  rw [Nat.mul_left_comm N]
  generalize N * GG n = z at h5 h7 ⊢
  omega
theorem best_bd {ws : List Rat} (hw : All 84 (2 ^ 71) ws) (hl : ws.length ≤ 4) {h : Dim} (hs : HSz h.1) (ev : Even h) (h8 : h.2.length ≤ 8) (hm : mmany h.2 ≤ 8) (h1 : ∀ m, m < mmany h.2 → 0 < deedsN h m) :
    ∀ (n D N m : Nat) (x : List Rat), 0 < D → m < mmany h.2 → All D N x → Bd (D * EE n) (N * GG n) (bestR ws h n m x)
  | 0, D, N, m, x, hD, _, _ => Bd.zero (Nat.mul_pos hD (ee_pos 0)) _
  | n + 1, D, N, m, x, hD, mm, hx => by
    rw [bestR_succ]
    split
    · exact Bd.zero (Nat.mul_pos hD (ee_pos _)) _
    · have ne : (List.range (deedsN h m)).map (valueR ws h n m x) ≠ [] := fun z => by
        have := congrArg List.length z
        rw [List.length_map, List.length_range] at this
        have := h1 m mm
        simp at *
        omega
      obtain ⟨d, hd, e⟩ := List.mem_map.mp (lmax_mem ne)
      rw [← e]
      have hd := List.mem_range.mp hd
      exact value_bd hw hl hs ev h8 hm hD hx hd (ahead_all (by omega) (behindL_all hs ev h8 hD hx hd) fun m' x' hx' q => best_bd hw hl hs ev h8 hm h1 n _ _ m' x' (by omega) q hx')
end K66

/-! W5: the worths by the clock (own work) -/
namespace K66
open PySem PySem.Spec PyProof.Rows L2
local macro_rules | `(tactic| walk_at "kp") => `(tactic| first
  | exact Kp.refl _
  | assumption
  | (refine Kp.trans (by assumption) ?_; walk_at "kp")
  | (refine Kp.trans (kp_same (by assumption)) ?_; walk_at "kp"))
local macro_rules | `(tactic| walk_at "is") => `(tactic| first
  | assumption
  | (refine Tp.mono ?_ (by assumption); walk_at "kp"))
local macro_rules | `(tactic| walk_at "x") => `(tactic| with_reducible first
  | refine x_seq ?_ | refine x_ret ?_ | refine x_asg ?_ | refine x_ifs ?_ | refine x_drop ?_ | refine x_next ?_ | refine x_call ?_ | refine x_cb ?_ | refine x_cons ?_ | refine x_nil ?_
  | refine x_op ?_ | refine x_un ?_ | refine x_c ?_ | refine x_i0 ?_ | refine x_u ?_ | refine x_eqI ?_ | refine x_neI ?_ | refine x_test ?_ | refine x_tb ?_ | refine x_bl ?_ | refine x_not ?_
  | refine x_and ?_ | refine x_or ?_ | refine x_andV ?_ | refine x_orV ?_ | refine x_notV ?_ | refine x_if ?_ | refine x_tup ?_ | refine x_lst ?_ | refine x_name ?_ | refine x_gcd ?_ | refine x_for ?_ | refine x_par ?_ | refine x_par3 ?_ | refine x_two ?_ | refine x_three ?_ | refine x_lcd ?_ | refine x_yes ?_ | refine x_isq ?_ | refine x_izip ?_ | refine x_ienum ?_ | refine x_irng ?_ | refine x_kt ?_ | refine x_isiI ?_ | refine x_isiB ?_ | refine x_chain ?_ | refine x_sl ?_ | refine x_part ?_ | refine x_nopart ?_ | refine x_isint ?_ | refine x_bm ?_ | refine x_tix ?_ )
local macro_rules | `(tactic| walk_at "v") => `(tactic| ((with_reducible refine x_var (v := ?kv) ?k1 ?_); (case k1 => exact rfl)))
local macro_rules | `(tactic| walk_at "n") => `(tactic| first
  | ((with_reducible refine x_num (q := ?kv) ?k1 ?_); (case k1 => walk_at "is"))
  | ((with_reducible refine x_den (q := ?kv) ?k1 ?_); (case k1 => walk_at "is")))
local macro_rules | `(tactic| walk_at "m") => `(tactic| ((with_reducible refine x_i ?k1 ?_); (case k1 => first | exact mw_nd (by assumption) (by assumption) | exact mw_nn (by assumption) (by assumption) | exact mw_dd (by assumption) (by assumption))))
local macro_rules | `(tactic| walk_at "tu") => `(tactic| first
  | assumption
  | (refine TupA.mono ?_ (by assumption); walk_at "kp"))
local macro_rules | `(tactic| walk_at "i") => `(tactic| first
  | ((with_reducible refine x_ix0 (us := ?ku) (v := ?kv) ?k1 ?k2 ?_); (case k1 => walk_at "tu"); (case k2 => exact rfl))
  | ((with_reducible refine x_ix1 (us := ?ku) (v := ?kv) ?k1 ?k2 ?_); (case k1 => walk_at "tu"); (case k2 => exact rfl))
  | ((with_reducible refine x_ix2 (us := ?ku) (v := ?kv) ?k1 ?k2 ?_); (case k1 => walk_at "tu"); (case k2 => exact rfl)))
local macro_rules | `(tactic| walk_at "ht") => `(tactic| refine x_t (by first | rfl | (simp; done) | (simp; omega)) ?_)
local macro_rules | `(tactic| walk_at "hf") => `(tactic| refine x_f (by first | rfl | (simp; done) | (simp; omega)) ?_)
local macro_rules | `(tactic| walk_at "g") => `(tactic| repeat (first | walk_at "x" | walk_at "v" | walk_at "n" | walk_at "i" | walk_at "m" | ((with_reducible refine x_f ?k1 ?_); (case k1 => exact rfl)) | ((with_reducible refine x_t ?k1 ?_); (case k1 => exact rfl))))

theorem is_deedv {K : PySem.W.Frag} {H : Hp} {v : V} {d : Deed} (h : Is K H v d) : ∃ a x y, v = .ref a ∧ TupA K H a [x, y] ∧ Is K H x d.1 ∧ Is K H y d.2 := is_pair h
section
variable {K : PySem.W.Frag} {σ : L2.St} {H H1 : Hp} {Q : VK} {v x y : V} {a : Addr}
theorem x_atT {α : Type} [Enc α] {xs : List α} {us : List V} {i : Nat} {x : α} (t : TupA K H a us) (l : IsL K H us xs) (e : xs[i]? = some x) (k : ∀ u, Is K H u x → Q u H) : rIxT K (.ref a) (.int (i : Int)) H Q := by
  obtain ⟨u, e2, q⟩ := isl_at l e
  exact ⟨a, us, i, u, rfl, rfl, t.sq, atI_nat e2, k u q⟩
theorem x_atL {α : Type} [Enc α] {xs : List α} {us : List V} {i : Nat} {x : α} (t : H a = some (.lst us)) (l : IsL K H us xs) (e : xs[i]? = some x) (k : ∀ u, Is K H u x → Q u H) : rIxL K (.ref a) (.int (i : Int)) H Q := by
  obtain ⟨u, e2, q⟩ := isl_at l e
  exact ⟨a, us, i, u, rfl, rfl, SqL.of t, atI_nat e2, k u q⟩
theorem x_lastL {us : List V} {u : V} (t : H a = some (.lst (us ++ [u]))) (k : Q u H) : rIxL K (.ref a) (.int (-1)) H Q :=
  ⟨a, us ++ [u], -1, u, rfl, rfl, SqL.of t, atI_last us u, k⟩
/-- a list that stands for l -/
def LL (K : PySem.W.Frag) {α : Type} [Enc α] (H : Hp) (v : V) (l : List α) : Prop := ∃ a us, v = .ref a ∧ H a = some (.lst us) ∧ IsL K H us l
theorem LL.same {α : Type} [Enc α] {l : List α} {H2 : Hp} (e : Same H H2) (h : LL K H v l) : LL K H2 v l := by
  obtain ⟨a, us, rfl, h1, h2⟩ := h
  exact ⟨a, us, rfl, e _ _ h1, TpAll.mono (kp_same e) h2⟩
/-- a comprehension that makes lists -/
theorem x_lcLL {Qd : Addr → Hp → Prop} {α : Type} [Enc α] (L : List (List α)) {J : It} {n : Nat} {G : Hp → Prop} {Y : Nat → Hp → V → Hp → Prop} {g : TG} {tt : TT} {te : TE} {vs : List Nat} (w : Walk J n G Y) (hl : n = L.length) (hn : n ≤ 100000) (hG : ∀ H2, Same H1 H2 → G H2)
    (hY : ∀ (i : Nat) (x : V) (H2 H3 : Hp), Y i H2 x H3 → Same H2 H3)
    (turn : ∀ (i : Nat) (x : V) (y : List α) (H2 H3 : Hp) (R : VK) (N : Hp → Prop), L[i]? = some y → Same H1 H2 → Y i H2 x H3 → (∀ b us H4, Same H3 H4 → H3 b = none → H4 b = some (.lst us) → IsL K H4 us y → R (.ref b) H4) →
      g x (wipe σ vs) H3 fun σ2 H4 => wipe σ2 vs = wipe σ vs ∧ tt σ2 H4 fun b H5 => if b = true then te σ2 H5 R else N H5)
    (done : ∀ (D : Addr) (H2 : Hp) (us : List V), H1 D = none → Same H1 H2 → H2 D = some (.lst us) → us.length = L.length → (∀ (i : Nat) (v : V) (l : List α), us[i]? = some v → L[i]? = some l → ∃ a ws, v = .ref a ∧ H1 a = none ∧ H2 a = some (.lst ws) ∧ IsL K H2 ws l) → Qd D H2) :
    ∀ D, H1 D = none → ∃ W : Nat → Nat → Hp → Prop, (∃ m, W 0 m (upd H1 D (.lst []))) ∧ ∀ i m H, W i m H →
      (J.stop i H ∧ Qd D H) ∨ (J.go i H ∧ ∃ Nx : Hp → Prop, (∀ H', Nx H' → ∃ m', m' < m ∧ W (i + 1) m' H') ∧ ∀ x H', J.yld i H x H' → g x (wipe σ vs) H' fun σ2 H2 => wipe σ2 vs = wipe σ vs ∧ tt σ2 H2 fun b H3 =>
        if b = true then te σ2 H3 fun y H4 => ∃ acc, H4 D = some (.lst acc) ∧ acc.length < sizeLine ∧ Nx (upd H4 D (.lst (acc ++ [y]))) else Nx H3) := by
  subst hl
  intro D hD
  refine lc_it w (fun i H => Same H1 H ∧ ∃ us, H D = some (.lst us) ∧ us.length = i ∧ ∀ (j : Nat) (v : V) (l : List α), us[j]? = some v → L[j]? = some l → ∃ a vs, v = .ref a ∧ a ≠ D ∧ H1 a = none ∧ H a = some (.lst vs) ∧ IsL K H vs l) ⟨same_new hD, [], upd_same, rfl, fun j v l z => by simp at z⟩ (fun i H _ p => hG H p.1) (fun i x H2 H3 hi p y => ?_) (fun H p => ?_)
  · obtain ⟨e1, us, eD, hl, hq⟩ := p
    have e2 := hY i x H2 H3 y
    have gi : L[i]? = some L[i] := List.getElem?_eq_getElem hi
    refine turn i x L[i] H2 H3 _ _ gi e1 y (fun b zs H4 e3 nb hb il => ⟨us, e3 _ _ (e2 _ _ eD), ?_, ?_, us ++ [.ref b], upd_same, ?_, ?_⟩)
    · have a3 : sizeLine = 16777216 := sizeLine_eq
      omega
    · exact Same.mut ((e1.trans e2).trans e3) hD
    · rw [List.length_append, hl]; rfl
    · have nbD : b ≠ D := fun z => by
        subst z
        have := e2 _ _ eD
        rw [nb] at this
        cases this
      have k2 : Kp H4 (upd H4 D (.lst (us ++ [.ref b]))) := kp_upd (e3 _ _ (e2 _ _ eD)) id
      intro j v l z1 z2
      rcases Nat.lt_trichotomy j us.length with c | c | c
      · rw [List.getElem?_append_left c] at z1
        obtain ⟨a, ws, r1, r2, r0, r3, r4⟩ := hq j v l z1 z2
        refine ⟨a, ws, r1, r2, r0, ?_, TpAll.mono (((kp_same e2).trans (kp_same e3)).trans k2) r4⟩
        rw [upd_ne r2]
        exact e3 _ _ (e2 _ _ r3)
      · subst c
        rw [List.getElem?_append_right (Nat.le_refl _), Nat.sub_self] at z1
        cases z1
        rw [hl] at z2
        rw [gi] at z2
        cases z2
        refine ⟨b, zs, rfl, nbD, (e1.trans e2).free nb, ?_, TpAll.mono k2 il⟩
        rw [upd_ne nbD]
        exact hb
      · rw [List.getElem?_eq_none (by rw [List.length_append]; show us.length + 1 ≤ j; omega)] at z1
        cases z1
  · obtain ⟨e1, us, eD, hl, hq⟩ := p
    exact done D H us hD e1 eD hl fun i v l z1 z2 => by
      obtain ⟨a, ws, r1, r2, r0, r3, r4⟩ := hq i v l z1 z2
      exact ⟨a, ws, r1, r0, r3, r4⟩
end
/-- what the clock's work needs -/
structure Tm (h : House) (ws : List Rat) : Prop where
  ho : HouseOk h
  hz : HSz h
  wz : All 84 (2 ^ 71) ws
  wl : ws.length = h.pays
theorem Tm.w4 {h : House} {ws : List Rat} (t : Tm h ws) : ws.length ≤ 4 := by rw [t.wl]; exact t.ho.p1
theorem Tm.ne {h : House} {ws : List Rat} (t : Tm h ws) : ∀ s ∈ h.st, s ≠ [] := fun s hs z => by
  have := (t.ho.st s hs).lo
  rw [z] at this
  simp at this
theorem Tm.all {h : House} {ws : List Rat} (t : Tm h ws) (n : Nat) : All (EE n) (GG n) (wor h ws n) := wor_all t.hz t.ne t.wz t.w4 n
theorem wsz {q : Rat} (h : Bd 84 (2 ^ 71) q) : Sz q := h.small (p600 (by decide)) (p600 (Nat.pow_le_pow_right (by decide) (by decide)))
def sp_deed_worth (K : PySem.W.Frag) : Sp := fun vs H Q _ => ∃ (x y z u : V) (h : House) (ws v : List Rat) (s : List Deed) (d : Deed) (n : Nat), vs = [x, y, z, u] ∧ Is K H x h ∧ Is K H y ws ∧ Is K H z v ∧ Is K H u d ∧ Tm h ws ∧ s ∈ h.st ∧ d ∈ s ∧ n ≤ 30 ∧ All (EE n) (GG n) v ∧ v.length = h.st.length ∧
  ∀ r H', Same H H' → Is K H' r (worth h ws v d) → Q r H'
/-- the place of the first greatest of the first so many -/
def fb (l : List Rat) : Nat → Nat
  | 0 => 0
  | i + 1 => if upto l i < l.getD i 0 then i else fb l i
theorem fb_at {l : List Rat} (ne : l ≠ []) : ∀ {i : Nat}, i ≤ l.length → l[fb l i]? = some (upto l i)
  | 0, _ => by
    cases l with
    | nil => exact absurd rfl ne
    | cons x r => rfl
  | i + 1, h => by
    have gi : l[i]? = some l[i] := List.getElem?_eq_getElem (by omega)
    have ih := fb_at (i := i) ne (by omega)
    have e : l.getD i 0 = l[i] := by rw [List.getD_eq_getElem?_getD, gi]; rfl
    rw [upto_snoc gi]
    unfold fb
    rw [e]
    split
    · exact gi
    · exact ih
def sp_first_best (K : PySem.W.Frag) : Sp := fun vs H Q _ => ∃ (a : Addr) (us : List V) (l : List Rat), vs = [.ref a] ∧ H a = some (.lst us) ∧ IsL K H us l ∧ l ≠ [] ∧ (∀ q ∈ l, Sz q) ∧ ∀ H', Same H H' → Q (.int (fb l l.length)) H'
def sp_timed_by (K : PySem.W.Frag) : Sp := fun vs H Q _ => ∃ (x y : V) (h : House) (ws : List Rat) (n : Nat), vs = [x, y, .int n] ∧ Is K H x h ∧ Is K H y ws ∧ Tm h ws ∧ n ≤ 30 ∧
  ∀ a r1 r2 H', Same H H' → TupA K H' a [r1, r2] → Is K H' r1 ((List.range (n + 1)).map (wor h ws)) → Q (.ref a) H'
section
variable {P : Program} {w : World} {K : PySem.W.Frag} {mg : Str → Option Value} {base : Heap}
theorem ok_deed_worth (T : Tx K mg) : FnOk P w K mg base CX0 5 (He.ga K "deed_worth") (fdAt K (He.ga K "deed_worth")) ["house", "weights", "worths", "deed"] (sp_deed_worth K) := by
  refine FunD.ok T.F_deed_worth sc_deed_worth (fun vs H Q E h => by obtain ⟨x, y, z, u, h, ws, v, s, d, n, rfl, _⟩ := h; rfl) (fun cdv A outer s H vs Q E hr h => ⟨_, PSs.nox (pss_cons (ps_asg (pv 3) (kg_tup K (n := 2) rfl (pgs_cons (pg_name (i := 4) sc_deed_worth.nd rfl (by first | exact Or.inl rfl | exact Or.inr rfl) (Or.inl rfl)) (pgs_cons (pg_name (i := 5) sc_deed_worth.nd rfl (by first | exact Or.inl rfl | exact Or.inr rfl) (Or.inl rfl)) pgs_nil))))
    (pss_cons (ps_set (i := 6) sc_deed_worth.nd rfl (by first | exact Or.inl rfl | exact Or.inr rfl) (pe_call (ok_total T) (hr.mono (by decide)) (by rfl) T.m_total T.F_total.kp (b_total T) .nil pass0 (pa_cons (pe_lc (own := [("goal", 7), ("chance", 8)]) rfl sc_deed_worth.nd (kp_sq K true (pv 4)) (blkOk_by (by kernel_rfl)) (fun _ _ _ _ _ => (kg_tup K (n := 2) rfl (pgs_cons (pg_name (i := 7) sc_deed_worth.nd rfl (Or.inl rfl) (Or.inr rfl)) (pgs_cons (pg_name (i := 8) sc_deed_worth.nd rfl (Or.inl rfl) (Or.inr rfl)) pgs_nil)))) (fun _ _ _ _ _ => pts_nil) (fun _ _ _ _ _ => (pe_call (ok_times T) (hr.mono (by decide)) (by rfl) T.m_times T.F_times.kp (b_times T) .nil pass0 (pa_cons (pv 8) (pa_cons (pe_ix (ki_tup K) (pv 2) (pv 7) (fun _ _ => rfl)) pa_nil))))) pa_nil)))
    (pss_one (ps_ret (pe_call (ok_plus T) (hr.mono (by decide)) (by rfl) T.m_plus T.F_plus.kp (b_plus T) .nil pass0 (pa_cons (pe_call (ok_dot T) (hr.mono (by decide)) (by rfl) T.m_dot T.F_dot.kp (b_dot T) .nil pass0 (pa_cons (pv 1) (pa_cons (pv 5) pa_nil))) (pa_cons (pe_call (ok_times T) (hr.mono (by decide)) (by rfl) T.m_times T.F_times.kp (b_times T) .nil pass0 (pa_cons (pe_ix (ki_tup K) (pv 0) pe_int (fun _ _ => rfl)) (pa_cons (pv 6) pa_nil))) pa_nil))))))), ?_⟩)
  obtain ⟨x, y, z, u, h, ws, v, s, d, n, rfl, hx, hy, hz, hu, tm, ms, md, hn, av, lv, k⟩ := h
  obtain ⟨a, x1, x2, x3, rfl, ta, h1, h2, h3⟩ := is_house hx
  obtain ⟨b, u1, u2, rfl, tb, f1, f2⟩ := is_deedv hu
  obtain ⟨c, cs, rfl, tc, lc⟩ := is_list f1
  obtain ⟨e, zs, rfl, te, le⟩ := is_list hz
  have e1 := isl_len lc
  have c8 := tm.hz.c8 s ms d md
  have dk := (tm.ho.st s ms).d d md
  have pz := prod_so tm.hz ms md (ee_pos n) av (ee_lt hn) (gg_lt hn)
  walk_at "g"
  refine x_gpair tb ?_
  walk_at "g"
  refine ⟨c, rfl, ⟨cs, tc.sqx⟩, x_lcL (K := K) (d.1.map fun c => c.2 * v.getD c.1 0) (walk_s true) (by rw [List.length_map, e1]) (by omega) (fun H2 e => sqx_same e tc.sqx) yat_same ?_ ?_⟩
  · rintro i x y H2 H3 R N gy e5 ⟨rfl, g1⟩ done
    obtain ⟨p, gp, hp⟩ := isl_get lc g1
    rw [List.getElem?_map, gp] at gy
    cases gy
    obtain ⟨b5, y1, y2, rfl, tb5, q1, q2⟩ := is_pair hp
    have mp := List.mem_of_getElem? gp
    have lt := dk.c.lt p mp
    cases is_nat q1
    refine x_gpair (tb5.mono (kp_same e5)) ⟨rfl, ?_⟩
    walk_at "g"
    refine x_atT (te.mono (kp_same e5)) (TpAll.mono (kp_same e5) le) (i := p.1) (x := v.getD p.1 0) ?_ fun r hr2 => ?_
    · rw [List.getD_eq_getElem?_getD, List.getElem?_eq_getElem (by omega)]
      rfl
    walk_at "g"
    refine ⟨_, _, _, _, rfl, Tp.mono (kp_same e5) q2, hr2, (tm.hz.ch s ms d md p mp).small (p600 (by decide)) (p600 (by decide)), ?_, done⟩
    have := av.mem (ee_pos n) p.1
    exact this.sz (Nat.lt_trans (ee_lt hn) (Nat.pow_lt_pow_right (by decide) (by decide))) (Nat.lt_trans (gg_lt hn) (Nat.pow_lt_pow_right (by decide) (by decide)))
  · intro L H2 us nL e2 hL il
    walk_at "g"
    refine ⟨false, L, us, _, rfl, SqL.of hL, il, pz, fun r H3 e3 hr3 => ?_⟩
    have e23 := e2.trans e3
    walk_at "g"
    refine ⟨_, _, _, _, rfl, Tp.mono (kp_same e23) hy, Tp.mono (kp_same e23) f2, fun q hq => wsz (tm.wz q hq), fun q hq => wsz (tm.hz.g s ms d md q hq), Nat.le_trans tm.w4 (by decide), dot_so tm.wz (tm.hz.g s ms d md) tm.w4, fun r4 H4 e4 hr4 => ?_⟩
    have ta4 := ta.mono (kp_same (e23.trans e4))
    walk_at "g"
    refine ⟨_, _, _, _, rfl, Tp.mono (kp_same (e23.trans e4)) h1, Tp.mono (kp_same e4) hr3, tm.hz.sh.small (p600 (by decide)) (p600 (by decide)), (ahead_bd tm.hz ms md (ee_pos n) av).sz3 (p600 (by decide)) (p600 (by decide)) (ee_lt hn) (gg_lt hn), fun r5 H5 e5 hr5 => ?_⟩
    walk_at "g"
    refine ⟨_, _, _, _, rfl, Tp.mono (kp_same e5) hr4, hr5, (dot_bd tm.wz (tm.hz.g s ms d md) tm.w4).small (p600 (by decide)) (Nat.pow_le_pow_right (by decide) (by decide)), ?_, fun r6 H6 e6 hr6 => ?_⟩
    · have := tm.hz.sh.mul (ahead_bd tm.hz ms md (ee_pos n) av)
      rw [← Nat.mul_assoc, ← Nat.mul_assoc] at this
      exact this.sz3 (p600 (by decide)) (p600 (by decide)) (ee_lt hn) (gg_lt hn)
    · exact k _ _ ((e23.trans e4).trans (e5.trans e6)) hr6
theorem ok_first_best (T : Tx K mg) : FnOk P w K mg base CX0 2 (He.ga K "first_best") (fdAt K (He.ga K "first_best")) ["row"] (sp_first_best K) := by
  refine FunD.ok T.F_first_best sc_first_best (fun vs H Q E h => by obtain ⟨a, us, l, rfl, _⟩ := h; rfl) (fun cdv A outer s H vs Q E hr h => ⟨_, PSs.nox (pss_cons (ps_set (i := 1) sc_first_best.nd rfl (by first | exact Or.inl rfl | exact Or.inr rfl) pe_int)
    (pss_cons (ps_for PassesOwn.never rfl (kp_enum K false (by rfl) T.z_enumerate (pa_cons (pv 0) pa_nil)) (kg_tup K (n := 2) rfl (pgs_cons (pg_name (i := 2) sc_first_best.nd rfl (by first | exact Or.inl rfl | exact Or.inr rfl) (Or.inl rfl)) (pgs_cons (pg_name (i := 3) sc_first_best.nd rfl (by first | exact Or.inl rfl | exact Or.inr rfl) (Or.inl rfl)) pgs_nil))) (pss_one (ps_if (pt_val (pe_call (ok_is_less T) (hr.mono (by decide)) (by rfl) T.m_is_less T.F_is_less.kp (b_is_less T) .nil pass0 (pa_cons (pe_ix (ki_list K) (pv 0) (pv 1) (fun _ _ => rfl)) (pa_cons (pv 3) pa_nil)))) (pss_one (ps_set (i := 1) sc_first_best.nd rfl (by first | exact Or.inl rfl | exact Or.inr rfl) (pv 2))) pss_nil)))
    (pss_one (ps_ret (pv 1))))), ?_⟩)
  obtain ⟨a, us, l, rfl, ha, la, ne, sz, k⟩ := h
  have e1 := isl_len la
  walk_at "g"
  refine ⟨a, us, rfl, SqL.of ha, for_it (walk_e (t := false)) (fun i σ' H' => ∃ (y2 y3 : Option V), σ' = [some (.ref a), some (.int (fb l i)), y2, y3] ∧ Same H H') ⟨none, none, rfl, Same.refl _⟩ (fun i σ' H' _ ⟨y2, y3, _, e⟩ => sqx_same e (SqL.of ha)) ?_ ?_⟩
  · rintro i x σ' H1 H2 hi ⟨y2, y3, rfl, e⟩ ⟨Tq, u1, u2, rfl, nT, rfl, g1, g2⟩
    cases g1
    obtain ⟨q, gq, hq⟩ := isl_get la g2
    refine x_gpair (.of upd_same) ?_
    have e2 := e.trans (same_new (o := .tup [.int (i : Nat), u2]) nT)
    have hb := fb_at ne (i := i) (by omega)
    have qd : l.getD i 0 = q := by rw [List.getD_eq_getElem?_getD, gq]; rfl
    have un : fb l (i + 1) = if upto l i < q then i else fb l i := by rw [← qd]; rfl
    walk_at "g"
    refine x_atL (e2 _ _ ha) (TpAll.mono (kp_same e2) la) hb fun r hr => ?_
    walk_at "g"
    refine ⟨_, _, _, _, rfl, hr, Tp.mono (kp_same e2) hq, sz _ (List.mem_of_getElem? hb), sz _ (List.mem_of_getElem? gq), ?_⟩
    refine ⟨_, rfl, ?_⟩
    refine x_2 (fun c => ?_) (fun c => ?_)
    · rw [if_pos (of_decide_eq_true c)] at un
      walk_at "g"
      exact ⟨_, _, by rw [un]; rfl, e2⟩
    · rw [if_neg (of_decide_eq_false c)] at un
      walk_at "g"
      exact ⟨_, _, by rw [un]; rfl, e2⟩
  · rintro σ' H1 ⟨y2, y3, rfl, e⟩
    rw [e1]
    walk_at "g"
    exact k _ e
theorem x_nought {n : Nat} {H : Hp} {p : Addr} {Q : VK} (T : Tx K mg) (hp : H p = none) (h1 : 1 ≤ n) (h2 : n ≤ 1000) (k : ∀ v H', Same H H' → Is K H' v (List.replicate n (0 : Rat)) → Q v H') : rRepA K (.ref p) (.int n) (upd H p (.tup [.ref (He.ga K "ZERO")])) Q := by
  have hz : IsL K (upd H p (.tup [.ref (He.ga K "ZERO")])) [.ref (He.ga K "ZERO")] [(0 : Rat)] := isl_one (zero_is T _)
  refine ⟨p, n, _, rfl, rfl, SqT.of upd_same, (fun z => by cases z), ⟨by omega, by omega, by show 1 ≤ 1000; decide⟩, fun e => ?_, fun _ q hq => ?_⟩
  · have e1 : n = 1 := by omega
    subst e1
    exact k _ _ (same_new hp) (is_list_mk (.of upd_same) hz)
  · refine k _ _ ((same_new hp).trans (same_new hq)) (is_list_mk (.of upd_same) ?_)
    have e1 : (List.replicate (n : Int).toNat [V.ref (He.ga K "ZERO")]).flatten = List.replicate n (V.ref (He.ga K "ZERO")) := by
      rw [Int.toNat_natCast]
      exact flat1 _ n
    rw [e1]
    show TpAll K _ _ ((List.replicate n (0 : Rat)).map Enc.enc)
    rw [List.map_replicate]
    exact TpAll.rep (zero_is T _) n
theorem ok_timed_by (T : Tx K mg) : FnOk P w K mg base CX0 6 (He.ga K "timed_by") (fdAt K (He.ga K "timed_by")) ["house", "weights", "many"] (sp_timed_by K) := by
  refine FunD.ok T.F_timed_by sc_timed_by (fun vs H Q E h => by obtain ⟨x, y, h, ws, n, rfl, _⟩ := h; rfl) (fun cdv A outer s H vs Q E hr h => ⟨_, PSs.nox (pss_cons (ps_asg (pe_tup (pa_cons (pe_lst (pa_cons (pe_op (ko_rep K) (pe_tup (pa_cons (pe_glob (v := .ref (He.ga K "ZERO")) (by rfl) T.m_ZERO rfl) pa_nil)) (pe_callB (kc_len K) (by rfl) T.z_len bt_len (pa_cons (pe_ix (ki_tup K) (pv 0) pe_int (fun _ _ => rfl)) pa_nil))) pa_nil)) (pa_cons (pe_lst pa_nil) pa_nil))) (kg_tup K (n := 2) rfl (pgs_cons (pg_name (i := 3) sc_timed_by.nd rfl (by first | exact Or.inl rfl | exact Or.inr rfl) (Or.inl rfl)) (pgs_cons (pg_name (i := 4) sc_timed_by.nd rfl (by first | exact Or.inl rfl | exact Or.inr rfl) (Or.inl rfl)) pgs_nil))))
    (pss_cons (ps_for PassesOwn.never rfl (pi_range1 rfl T.z_range (pa_cons (pv 2) pa_nil)) (pg_name (i := 5) sc_timed_by.nd rfl (by first | exact Or.inl rfl | exact Or.inr rfl) (Or.inl rfl)) (pss_cons (ps_setLc (i := 6) (own := [("deeds", 7)]) rfl sc_timed_by.nd rfl rfl (sw_true rfl rfl rfl (by decide +kernel)) (kp_sq K true (pe_ix (ki_tup K) (pv 0) pe_int (fun _ _ => rfl))) (blkOk_by (by kernel_rfl)) (fun _ _ _ _ _ => (pg_name (i := 7) sc_timed_by.nd rfl (Or.inl rfl) (Or.inr rfl))) (fun _ _ _ _ _ => pts_nil) (fun _ _ _ _ _ => (pe_lc (own := [("deed", 8)]) rfl sc_timed_by.nd (kp_sq K true (pv 7)) (blkOk_by (by kernel_rfl)) (fun _ _ _ _ _ => (pg_name (i := 8) sc_timed_by.nd rfl (Or.inl rfl) (Or.inr rfl))) (fun _ _ _ _ _ => pts_nil) (fun _ _ _ _ _ => (pe_call (ok_deed_worth T) (hr.mono (by decide)) (by rfl) T.m_deed_worth T.F_deed_worth.kp (b_deed_worth T) .nil pass0 (pa_cons (pv 0) (pa_cons (pv 1) (pa_cons (pe_ix (ki_list K) (pv 3) (pe_un un_neg pe_int) (fun _ _ => rfl)) (pa_cons (pv 8) pa_nil)))))))))
    (pss_cons (ps_expr (ke_bm K PySem.F.plainAttrs_list PySem.F.slot_list_append PySem.F.type_list_append mt_append (pv 4) (pa_cons (pe_callTy (kc_tuple K) (by rfl) T.z_tuple bt_tuple (pa_cons (pe_lc (own := [("row", 9)]) rfl sc_timed_by.nd (kp_sq K false (pv 6)) (blkOk_by (by kernel_rfl)) (fun _ _ _ _ _ => (pg_name (i := 9) sc_timed_by.nd rfl (Or.inl rfl) (Or.inr rfl))) (fun _ _ _ _ _ => pts_nil) (fun _ _ _ _ _ => (pe_call (ok_first_best T) (hr.mono (by decide)) (by rfl) T.m_first_best T.F_first_best.kp (b_first_best T) .nil pass0 (pa_cons (pv 9) pa_nil)))) pa_nil)) pa_nil)))
    (pss_one (ps_expr (ke_bm K PySem.F.plainAttrs_list PySem.F.slot_list_append PySem.F.type_list_append mt_append (pv 3) (pa_cons (pe_callTy (kc_tuple K) (by rfl) T.z_tuple bt_tuple (pa_cons (pe_lc (own := [("row", 9), ("at", 10)]) rfl sc_timed_by.nd (kp_zip K false true (by rfl) T.z_zip (pa_cons (pv 6) (pa_cons (pe_ix (ki_list K) (pv 4) (pe_un un_neg pe_int) (fun _ _ => rfl)) pa_nil))) (blkOk_by (by kernel_rfl)) (fun _ _ _ _ _ => (kg_tup K (n := 2) rfl (pgs_cons (pg_name (i := 9) sc_timed_by.nd rfl (Or.inl rfl) (Or.inr rfl)) (pgs_cons (pg_name (i := 10) sc_timed_by.nd rfl (Or.inl rfl) (Or.inr rfl)) pgs_nil)))) (fun _ _ _ _ _ => pts_nil) (fun _ _ _ _ _ => (pe_ix (ki_list K) (pv 9) (pv 10) (fun _ _ => rfl)))) pa_nil)) pa_nil)))))))
    (pss_one (ps_ret (pe_tup (pa_cons (pe_callTy (kc_tuple K) (by rfl) T.z_tuple bt_tuple (pa_cons (pv 3) pa_nil)) (pa_cons (pe_callTy (kc_tuple K) (by rfl) T.z_tuple bt_tuple (pa_cons (pv 4) pa_nil)) pa_nil))))))), ?_⟩)
  obtain ⟨x, y, h, ws, n, rfl, hx, hy, tm, hn, k⟩ := h
  obtain ⟨a, x1, x2, x3, rfl, ta, h1, h2, h3⟩ := is_house hx
  obtain ⟨b, ss, rfl, tb, lb⟩ := is_list h3
  have e1 := isl_len lb
  have n1 := tm.ho.n0
  have n8 := tm.ho.n1
  walk_at "g"
  refine ⟨by show 1 ≤ sizeLine; decide, fun p hp => ?_⟩
  have ta1 := ta.mono (kp_same (same_new (o := .tup [.ref (He.ga K "ZERO")]) hp))
  walk_at "g"
  refine x_lenT (tb.mono (kp_same (same_new hp))) ?_
  walk_at "g"
  refine x_nought T hp (by omega) (by omega) fun v0 H1 s1 hv0 => ?_
  walk_at "g"
  refine ⟨by show 1 ≤ sizeLine; decide, fun wa hwa => ?_⟩
  walk_at "g"
  refine ⟨by show 0 ≤ sizeLine; decide, fun ca hca => ?_⟩
  walk_at "g"
  refine ⟨by show 2 ≤ sizeLine; decide, fun pa hpa => ?_⟩
  walk_at "g"
  refine x_gpair (.of upd_same) ?_
  have nc : ca ≠ wa := fun z => by
    rw [z, upd_same] at hca
    cases hca
  have s2 : Same H1 (upd (upd (upd H1 wa (.lst [v0])) ca (.lst [])) pa (.tup [.ref wa, .ref ca])) := ((same_new hwa).trans (same_new hca)).trans (same_new hpa)
  have na : H wa = none := s1.free hwa
  have nb : H ca = none := ((s1.trans (same_new (o := .lst [v0]) hwa))).free hca
  have gw : upd (upd (upd H1 wa (.lst [v0])) ca (.lst [])) pa (.tup [.ref wa, .ref ca]) wa = some (.lst [v0]) := same_new hpa _ _ (same_new hca _ _ upd_same)
  have gc : upd (upd (upd H1 wa (.lst [v0])) ca (.lst [])) pa (.tup [.ref wa, .ref ca]) ca = some (.lst []) := same_new hpa _ _ upd_same
  walk_at "g"
  have hv0' := Tp.mono (kp_same s2) hv0
  rw [e1] at hv0'
  refine ⟨n, rfl, by omega, by omega, for_it walk_range (fun i σ' H' => ∃ (y5 y6 : Option V) (us : List V) (u : V) (cs : List V), σ' = [some (.ref a), some y, some (.int n), some (.ref wa), some (.ref ca), y5, y6, none, none, none, none] ∧ Same H H' ∧ H' wa = some (.lst (us ++ [u])) ∧ IsL K H' us ((List.range i).map (wor h ws)) ∧ Is K H' u (wor h ws i) ∧ H' ca = some (.lst cs) ∧ cs.length = i) ⟨none, none, [], v0, [], rfl, s1.trans s2, gw, .nil, hv0', gc, rfl⟩ (fun i σ' H' _ _ => trivial) ?_ ?_⟩
  · rintro i x σ' H2 H3 hi ⟨y5, y6, us, u, cs, rfl, e, hw, lus, hu, hc, lcs⟩ ⟨rfl, rfl⟩
    have hi' : i < n := by omega
    have ta2 := ta.mono (kp_same e)
    have tb2 := tb.mono (kp_same e)
    refine x_name ?_
    walk_at "g"
    have rl : ((h.st.map fun ds => ds.map (worth h ws (wor h ws i)))).length = h.st.length := List.length_map ..
    refine ⟨b, rfl, ⟨ss, tb2.sqx⟩, x_lcLL (K := K) (h.st.map fun ds => ds.map (worth h ws (wor h ws i))) (walk_s true) (by rw [rl, e1]) (by omega) (fun H4 e4 => sqx_same e4 tb2.sqx) yat_same ?_ ?_⟩
    · rintro j x y' H4 H5 R N gy e4 ⟨rfl, g1⟩ done
      obtain ⟨ds, gd, hd⟩ := isl_get lb g1
      rw [List.getElem?_map, gd] at gy
      cases gy
      have md := List.mem_of_getElem? gd
      have l4 := (tm.ho.st ds md).hi
      obtain ⟨c, es, rfl, tc, lc⟩ := is_list hd
      have e2 := isl_len lc
      have e5 := e.trans e4
      have tc5 := tc.mono (kp_same e5)
      refine x_name ⟨rfl, ?_⟩
      walk_at "g"
      refine ⟨c, rfl, ⟨es, tc5.sqx⟩, x_lcL (K := K) (ds.map (worth h ws (wor h ws i))) (walk_s true) (by rw [List.length_map, e2]) (by omega) (fun H4 e4 => sqx_same e4 tc5.sqx) yat_same ?_ ?_⟩
      · rintro j x y' H6 H7 R N gy e6 ⟨rfl, g1⟩ done
        obtain ⟨d, gq, hq⟩ := isl_get lc g1
        rw [List.getElem?_map, gq] at gy
        cases gy
        have e7 := e5.trans e6
        refine x_name ⟨rfl, ?_⟩
        walk_at "g"
        refine x_lastL (e6 _ _ (e4 _ _ hw)) ?_
        walk_at "g"
        exact ⟨_, _, _, _, h, ws, wor h ws i, ds, d, i, rfl, Tp.mono (kp_same e7) hx, Tp.mono (kp_same e7) hy, Tp.mono (kp_same (e4.trans e6)) hu, Tp.mono (kp_same e7) hq, tm, md, List.mem_of_getElem? gq, by omega, tm.all i, wor_len h ws i, done⟩
      · intro L H6 zs nL e6 hL il
        exact done L zs H6 e6 nL hL il
    · intro L H4 zs nL e4 hL lz ll
      have e5 := e.trans e4
      walk_at "g"
      refine ⟨.inl ⟨rfl, cs, SqL.of (e4 _ _ hc)⟩, ?_⟩
      walk_at "g"
      have sq : SqX K false H4 L zs := SqL.of hL
      refine ⟨L, rfl, ⟨zs, sq⟩, x_lcL (K := K) ((h.st.map fun ds => ds.map (worth h ws (wor h ws i))).map fun l => fb l l.length) (walk_s false) (by rw [List.length_map, lz]) (by omega) (fun H4 e4 => sqx_same e4 sq) yat_same ?_ ?_⟩
      · rintro j x y' H6 H7 R N gy e6 ⟨rfl, g1⟩ done
        rw [List.getElem?_map] at gy
        obtain ⟨l, gl, rfl⟩ := Option.map_eq_some_iff.mp gy
        obtain ⟨c, us2, rfl, r0, r1, r2⟩ := ll j x l g1 gl
        rw [List.getElem?_map] at gl
        obtain ⟨ds, gd, rfl⟩ := Option.map_eq_some_iff.mp gl
        have md := List.mem_of_getElem? gd
        have ne := tm.ne ds md
        refine x_name ⟨rfl, ?_⟩
        walk_at "g"
        refine ⟨c, us2, _, rfl, e6 _ _ r1, TpAll.mono (kp_same e6) r2, by simpa using ne, fun q hq => ?_, fun H8 e8 => done _ _ e8 (.int _)⟩
        obtain ⟨d, hd, rfl⟩ := List.mem_map.mp hq
        exact (worth_bd tm.hz tm.wz tm.w4 md hd (tm.all i)).sz (Nat.lt_trans (ee_lt (by omega)) (Nat.pow_lt_pow_right (by decide) (by decide))) (Nat.lt_trans (gg_lt (by omega)) (Nat.pow_lt_pow_right (by decide) (by decide)))
      · intro L2 H6 zs2 nL2 e6 hL2 il2
        have e7 := e5.trans e6
        walk_at "g"
        refine ⟨L2, zs2, rfl, .inl ⟨SqL.of hL2, fun t o nt oc od => ?_⟩⟩
        walk_at "g"
        have s8 := same_new (o := .frz o (.tup zs2)) nt
        have e8 := e7.trans s8
        refine ⟨ca, cs, .ref t, rfl, rfl, s8 _ _ (e6 _ _ (e4 _ _ hc)), ?_, ?_⟩
        · have a3 : sizeLine = 16777216 := sizeLine_eq
          omega
        have e9 : Same H (upd (upd H6 t (.frz o (.tup zs2))) ca (.lst (cs ++ [.ref t]))) := Same.mut e8 nb
        have k7 : Kp (upd H6 t (.frz o (.tup zs2))) (upd (upd H6 t (.frz o (.tup zs2))) ca (.lst (cs ++ [.ref t]))) := kp_upd (s8 _ _ (e6 _ _ (e4 _ _ hc))) id
        have k67 := (kp_same s8).trans k7
        have k37 := (kp_same (e4.trans e6)).trans k67
        have gca : upd (upd H6 t (.frz o (.tup zs2))) ca (.lst (cs ++ [.ref t])) ca = some (.lst (cs ++ [.ref t])) := upd_same
        have gt : TupA K (upd (upd H6 t (.frz o (.tup zs2))) ca (.lst (cs ++ [.ref t]))) t zs2 := (TupA.frz (K := K) (o := o) (upd_same (H := H6))).mono k7
        have gwa : upd (upd H6 t (.frz o (.tup zs2))) ca (.lst (cs ++ [.ref t])) wa = some (.lst (us ++ [u])) := by
          rw [upd_ne (Ne.symm nc)]
          exact s8 _ _ (e6 _ _ (e4 _ _ hw))
        have nLc : L ≠ ca := fun z => by
          rw [z, hc] at nL
          cases nL
        have gL : upd (upd H6 t (.frz o (.tup zs2))) ca (.lst (cs ++ [.ref t])) L = some (.lst zs) := by
          rw [upd_ne nLc]
          exact s8 _ _ (e6 _ _ hL)
        have gl7 : ∀ (j : Nat) (v : V) (l : List Rat), zs[j]? = some v → (h.st.map fun ds => ds.map (worth h ws (wor h ws i)))[j]? = some l → LL K (upd (upd H6 t (.frz o (.tup zs2))) ca (.lst (cs ++ [.ref t]))) v l := fun j v l z1 z2 => by
          obtain ⟨c, us2, rfl, r0, r1, r2⟩ := ll j v l z1 z2
          refine ⟨c, us2, rfl, ?_, TpAll.mono ((kp_same e6).trans k67) r2⟩
          rw [upd_ne (fun z => by rw [z, hc] at r0; cases r0)]
          exact s8 _ _ (e6 _ _ r1)
        have il7 := TpAll.mono k67 il2
        have lus7 := TpAll.mono k37 lus
        have hu7 := Tp.mono k37 hu
        generalize hH7 : upd (upd H6 t (.frz o (.tup zs2))) ca (.lst (cs ++ [.ref t])) = H7 at *
        have z2l := isl_len il2
        rw [List.length_map, rl] at z2l
        dsimp only
        walk_at "g"
        refine ⟨.inl ⟨rfl, _, SqL.of gwa⟩, ?_⟩
        walk_at "g"
        refine x_lastL gca ?_
        walk_at "g"
        have sL : SqX K false H7 L zs := SqL.of gL
        refine ⟨L, t, zs, zs2, rfl, sL, gt.sqx, x_lcL (K := K) (wor h ws (i + 1)) (walk_x rfl) (by rw [wor_len, lz, z2l, rl]; exact Nat.min_self _) (by omega) (fun H3 e => ⟨sqx_same e sL, sqx_same e gt.sqx⟩) ypair_same ?_ ?_⟩
        · rintro j x y' H8 H9 R N gy e10 ⟨Tq, u1, u2, rfl, nT, rfl, g1, g2⟩ done
          obtain ⟨q, gq, hq⟩ := isl_get il7 g2
          rw [List.getElem?_map] at gq
          obtain ⟨l, gl, rfl⟩ := Option.map_eq_some_iff.mp gq
          obtain ⟨c, us2, rfl, r1, r2⟩ := gl7 j u1 l g1 gl
          rw [List.getElem?_map] at gl
          obtain ⟨ds, gd, rfl⟩ := Option.map_eq_some_iff.mp gl
          have md := List.mem_of_getElem? gd
          have ne := tm.ne ds md
          have e11 := e10.trans (same_new (o := .tup [.ref c, u2]) nT)
          cases is_nat hq
          refine x_gpair (.of upd_same) ⟨rfl, ?_⟩
          walk_at "g"
          have gy2 : (h.st.map fun ds => lmax (ds.map (worth h ws (wor h ws i))))[j]? = some y' := gy
          rw [List.getElem?_map, gd] at gy2
          cases gy2
          have fa := fb_at (l := ds.map (worth h ws (wor h ws i))) (by simpa using ne) (Nat.le_refl _)
          rw [upto_all] at fa
          exact x_atL (e11 _ _ r1) (TpAll.mono (kp_same e11) r2) fa fun r hr => done _ _ (Same.refl _) hr
        · intro L3 H8 zs3 nL3 e10 hL3 il3
          walk_at "g"
          refine ⟨L3, zs3, rfl, .inl ⟨SqL.of hL3, fun t3 o3 nt3 oc3 od3 => ?_⟩⟩
          have s11 := same_new (o := .frz o3 (.tup zs3)) nt3
          have e11 := e10.trans s11
          have k12 : Kp (upd H8 t3 (.frz o3 (.tup zs3))) (upd (upd H8 t3 (.frz o3 (.tup zs3))) wa (.lst (us ++ [u] ++ [.ref t3]))) := kp_upd (e11 _ _ gwa) id
          have k712 := (kp_same e11).trans k12
          walk_at "g"
          refine ⟨wa, us ++ [u], .ref t3, rfl, rfl, e11 _ _ gwa, ?_, ?_⟩
          · have a3 : sizeLine = 16777216 := sizeLine_eq
            have := isl_len lus
            rw [List.length_map, List.length_range] at this
            rw [List.length_append, this]
            show i + 1 < _
            omega
          refine ⟨_, _, us ++ [u], .ref t3, cs ++ [.ref t], rfl, Same.mut (e9.trans e11) na, upd_same, ?_, ?_, ?_, ?_⟩
          · rw [List.range_succ, List.map_append]
            exact isl_app (TpAll.mono k712 lus7) (isl_one (Tp.mono k712 hu7))
          · exact is_list_mk ((TupA.frz (K := K) (o := o3) (upd_same (H := H8))).mono k12) (TpAll.mono ((kp_same s11).trans k12) il3)
          · rw [upd_ne nc]
            exact e11 _ _ gca
          · rw [List.length_append, lcs]
            rfl
  · rintro σ' H2 ⟨y5, y6, us, u, cs, rfl, e, hw, lus, hu, hc, lcs⟩
    walk_at "g"
    refine ⟨wa, us ++ [u], rfl, .inl ⟨SqL.of hw, fun t o nt oc od => ?_⟩⟩
    have s3 := same_new (o := .frz o (.tup (us ++ [u]))) nt
    walk_at "g"
    refine ⟨ca, cs, rfl, .inl ⟨SqL.of (s3 _ _ hc), fun t2 o2 nt2 oc2 od2 => ?_⟩⟩
    have s4 := same_new (o := .frz o2 (.tup cs)) nt2
    walk_at "g"
    refine ⟨by show 2 ≤ sizeLine; decide, fun pz hpz => ?_⟩
    have s5 := same_new (o := .tup [.ref t, .ref t2]) hpz
    have s35 := (s3.trans s4).trans s5
    refine k _ _ _ _ (e.trans s35) (.of upd_same) (is_list_mk ((TupA.frz (K := K) (o := o) (upd_same (H := H2))).mono (kp_same (s4.trans s5))) ?_)
    rw [show (n : Int).toNat = n from rfl] at lus hu
    rw [List.range_succ, List.map_append]
    exact isl_app (TpAll.mono (kp_same s35) lus) (isl_one (Tp.mono (kp_same s35) hu))
end
end K66

/-! W6: sights (own work) -/
namespace K66
open PySem PySem.Spec PyProof.Rows L2
local macro_rules | `(tactic| walk_at "kp") => `(tactic| first
  | exact Kp.refl _
  | assumption
  | (refine Kp.trans (by assumption) ?_; walk_at "kp")
  | (refine Kp.trans (kp_same (by assumption)) ?_; walk_at "kp"))
local macro_rules | `(tactic| walk_at "is") => `(tactic| first
  | assumption
  | (refine Tp.mono ?_ (by assumption); walk_at "kp"))
local macro_rules | `(tactic| walk_at "x") => `(tactic| with_reducible first
  | refine x_seq ?_ | refine x_ret ?_ | refine x_asg ?_ | refine x_ifs ?_ | refine x_drop ?_ | refine x_next ?_ | refine x_call ?_ | refine x_cb ?_ | refine x_cons ?_ | refine x_nil ?_
  | refine x_op ?_ | refine x_un ?_ | refine x_c ?_ | refine x_i0 ?_ | refine x_u ?_ | refine x_eqI ?_ | refine x_neI ?_ | refine x_test ?_ | refine x_tb ?_ | refine x_bl ?_ | refine x_not ?_
  | refine x_and ?_ | refine x_or ?_ | refine x_andV ?_ | refine x_orV ?_ | refine x_notV ?_ | refine x_if ?_ | refine x_tup ?_ | refine x_lst ?_ | refine x_name ?_ | refine x_gcd ?_ | refine x_for ?_ | refine x_par ?_ | refine x_par3 ?_ | refine x_two ?_ | refine x_three ?_ | refine x_lcd ?_ | refine x_yes ?_ | refine x_isq ?_ | refine x_izip ?_ | refine x_ienum ?_ | refine x_irng ?_ | refine x_kt ?_ | refine x_isiI ?_ | refine x_isiB ?_ | refine x_chain ?_ | refine x_sl ?_ | refine x_part ?_ | refine x_nopart ?_ | refine x_isint ?_ | refine x_bm ?_ | refine x_tix ?_ )
local macro_rules | `(tactic| walk_at "v") => `(tactic| ((with_reducible refine x_var (v := ?kv) ?k1 ?_); (case k1 => exact rfl)))
local macro_rules | `(tactic| walk_at "n") => `(tactic| first
  | ((with_reducible refine x_num (q := ?kv) ?k1 ?_); (case k1 => walk_at "is"))
  | ((with_reducible refine x_den (q := ?kv) ?k1 ?_); (case k1 => walk_at "is")))
local macro_rules | `(tactic| walk_at "m") => `(tactic| ((with_reducible refine x_i ?k1 ?_); (case k1 => first | exact mw_nd (by assumption) (by assumption) | exact mw_nn (by assumption) (by assumption) | exact mw_dd (by assumption) (by assumption))))
local macro_rules | `(tactic| walk_at "tu") => `(tactic| first
  | assumption
  | (refine TupA.mono ?_ (by assumption); walk_at "kp"))
local macro_rules | `(tactic| walk_at "i") => `(tactic| first
  | ((with_reducible refine x_ix0 (us := ?ku) (v := ?kv) ?k1 ?k2 ?_); (case k1 => walk_at "tu"); (case k2 => exact rfl))
  | ((with_reducible refine x_ix1 (us := ?ku) (v := ?kv) ?k1 ?k2 ?_); (case k1 => walk_at "tu"); (case k2 => exact rfl))
  | ((with_reducible refine x_ix2 (us := ?ku) (v := ?kv) ?k1 ?k2 ?_); (case k1 => walk_at "tu"); (case k2 => exact rfl)))
local macro_rules | `(tactic| walk_at "ht") => `(tactic| refine x_t (by first | rfl | (simp; done) | (simp; omega)) ?_)
local macro_rules | `(tactic| walk_at "hf") => `(tactic| refine x_f (by first | rfl | (simp; done) | (simp; omega)) ?_)
local macro_rules | `(tactic| walk_at "g") => `(tactic| repeat (first | walk_at "x" | walk_at "v" | walk_at "n" | walk_at "i" | walk_at "m" | ((with_reducible refine x_f ?k1 ?_); (case k1 => exact rfl)) | ((with_reducible refine x_t ?k1 ?_); (case k1 => exact rfl))))

/-- a tuple of marks whose object is known -/
def Mk (K : PySem.W.Frag) (H : Hp) (v : V) (marks : List Nat) : Prop := ∃ a o us, v = .ref a ∧ H a = some (.frz o (.tup us)) ∧ o.cls = .type "tuple" ∧ o.dict = none ∧ IsL K H us marks
def IsDim (K : PySem.W.Frag) (H : Hp) (v : V) (dim : Dim) : Prop := ∃ a x y, v = .ref a ∧ TupA K H a [x, y] ∧ Is K H x dim.1 ∧ Mk K H y dim.2
theorem Mk.mono {K : PySem.W.Frag} {H H' : Hp} {v : V} {marks : List Nat} (k : Kp H H') (h : Mk K H v marks) : Mk K H' v marks := by
  obtain ⟨a, o, us, rfl, h1, h2, h3, h4⟩ := h
  exact ⟨a, o, us, rfl, k a _ trivial h1, h2, h3, TpAll.mono k h4⟩
theorem IsDim.mono {K : PySem.W.Frag} {H H' : Hp} {v : V} {dim : Dim} (k : Kp H H') (h : IsDim K H v dim) : IsDim K H' v dim := by
  obtain ⟨a, x, y, rfl, h1, h2, h3⟩ := h
  exact ⟨a, x, y, rfl, h1.mono k, Tp.mono k h2, h3.mono k⟩
structure DimOk (dim : Dim) : Prop where
  ho : HouseOk dim.1
  ln : dim.2.length = dim.1.st.length
  m2 : ∀ m ∈ dim.2, m ≤ 2
  all : ∀ m, m < mmany dim.2 → m ∈ dim.2
  ev : Even dim
theorem fold_top : ∀ (l : List Nat) (a : Nat), a ≤ l.foldl max a ∧ (∀ x ∈ l, x ≤ l.foldl max a) ∧ l.foldl max a ∈ a :: l
  | [], a => ⟨Nat.le_refl _, (by intro x h; cases h), by simp⟩
  | b :: r, a => by
    obtain ⟨h1, h2, h3⟩ := fold_top r (max a b)
    refine ⟨Nat.le_trans (Nat.le_max_left ..) h1, fun x hx => ?_, ?_⟩
    · rcases List.mem_cons.mp hx with e | e
      · subst e; exact Nat.le_trans (Nat.le_max_right ..) h1
      · exact h2 x e
    · rw [List.foldl_cons]
      rcases List.mem_cons.mp h3 with e | e
      · rw [e]
        rcases Nat.le_total a b with q | q
        · rw [Nat.max_eq_right q]; simp
        · rw [Nat.max_eq_left q]; simp
      · simp [e]
theorem mtop_ge {marks : List Nat} {m : Nat} (h : m ∈ marks) : m ≤ mtop marks := (fold_top marks 0).2.1 m h
theorem mtop_mem {marks : List Nat} (h : marks ≠ []) : mtop marks ∈ marks := by
  cases marks with
  | nil => exact absurd rfl h
  | cons a r =>
    have := (fold_top (a :: r) 0).2.2
    rcases List.mem_cons.mp this with e | e
    · have h0 : mtop (a :: r) = 0 := e
      have h1 := mtop_ge (marks := a :: r) (m := a) (by simp)
      rw [h0] at h1 ⊢
      have : a = 0 := by omega
      subst this
      simp
    · exact e
theorem DimOk.ne {dim : Dim} (d : DimOk dim) : dim.2 ≠ [] := fun z => by
  have := d.ln
  have := d.ho.n0
  rw [z] at *
  simp at *
  omega
theorem DimOk.m3 {dim : Dim} (d : DimOk dim) : mmany dim.2 ≤ 3 := by
  have := d.m2 _ (mtop_mem d.ne)
  unfold mmany
  omega
theorem DimOk.lt {dim : Dim} (d : DimOk dim) {m : Nat} (h : m ∈ dim.2) : m < mmany dim.2 := Nat.lt_succ_of_le (mtop_ge h)
theorem DimOk.at {dim : Dim} (d : DimOk dim) {m : Nat} (h : m ∈ dim.2) : ∃ s, dim.1.st[dim.2.idxOf m]? = some s ∧ s ∈ dim.1.st ∧ deedsN dim m = s.length := by
  have h1 : dim.2.idxOf m < dim.1.st.length := by
    rw [← d.ln]
    exact List.idxOf_lt_length_iff.mpr h
  have h2 := List.getElem?_eq_getElem h1
  refine ⟨_, h2, List.getElem_mem h1, ?_⟩
  unfold deedsN
  rw [List.getD_eq_getElem?_getD, h2]
  rfl
theorem DimOk.pos {dim : Dim} (d : DimOk dim) {m : Nat} (h : m ∈ dim.2) : 1 ≤ deedsN dim m ∧ deedsN dim m ≤ 4 := by
  obtain ⟨s, h1, h2, h3⟩ := d.at h
  rw [h3]
  exact ⟨(d.ho.st s h2).lo, (d.ho.st s h2).hi⟩
theorem idx_cast (m : Nat) : ∀ l : List Nat, (l.map fun n : Nat => (n : Int)).idxOf (m : Int) = l.idxOf m
  | [] => rfl
  | a :: r => by
    rw [List.map_cons, List.idxOf_cons, List.idxOf_cons, idx_cast m r]
    by_cases q : a = m
    · subst q; simp
    · have h1 : ((a : Int) == (m : Int)) = false := by rw [beq_eq_false_iff_ne]; omega
      have h2 : (a == m) = false := by rw [beq_eq_false_iff_ne]; exact q
      rw [h1, h2]
theorem mem_cast {m : Nat} {l : List Nat} (h : m ∈ l) : (m : Int) ∈ l.map fun n : Nat => (n : Int) := List.mem_map.mpr ⟨m, h, rfl⟩
section
variable {K : PySem.W.Frag} {σ : L2.St} {H H1 : Hp} {Q : VK} {v x y : V} {a : Addr}
theorem x_index {marks : List Nat} {us : List V} {m : Nat} (t : TupA K H a us) (l : IsL K H us marks) (h : m ∈ marks) (k : Q (.int (marks.idxOf m : Nat)) H) : rTupIx K (.ref a) [.int m] H Q := by
  refine ⟨a, _, m, rfl, rfl, ?_, mem_cast h, ?_⟩
  · rw [← isl_nats l]; exact t
  · rw [idx_cast]; exact k
theorem x_maxM {marks : List Nat} {us : List V} (t : TupA K H a us) (l : IsL K H us marks) (ne : marks ≠ []) (k : Q (.int (mtop marks : Nat)) H) : rMaxT K [.ref a] H Q := by
  refine ⟨a, _, rfl, by rw [← isl_nats l]; exact t, by simpa using ne, fun m h1 h2 => ?_⟩
  obtain ⟨n, hn, rfl⟩ := List.mem_map.mp h1
  have h3 := h2 _ (mem_cast (mtop_mem ne))
  have h4 := mtop_ge hn
  have : n = mtop marks := by omega
  rw [this]
  exact k
theorem x_in {marks : List Nat} {us : List V} {m : Nat} (t : TupA K H a us) (l : IsL K H us marks) (h : m ∈ marks) (k : Q (.bl false) H) : rIn K true (.int m) (.ref a) H Q := by
  rw [isl_nats l] at t
  refine ⟨a, _, rfl, .inr t, rfl, ?_, ?_⟩
  · rw [List.all_eq_true]
    intro z hz
    obtain ⟨n, _, rfl⟩ := List.mem_map.mp hz
    rfl
  · have : inV (.int (m : Int)) ((marks.map fun n : Nat => (n : Int)).map V.int) = true := by
      unfold inV
      rw [List.any_eq_true]
      exact ⟨.int (m : Int), List.mem_map.mpr ⟨_, mem_cast h, rfl⟩, by simp [eqV]⟩
    rw [this]
    exact k
end
def sp_marks_in (K : PySem.W.Frag) : Sp := fun vs H Q _ => ∃ (x : V) (dim : Dim), vs = [x] ∧ IsDim K H x dim ∧ dim.2 ≠ [] ∧ Q (.int (mmany dim.2 : Nat)) H
def sp_stands_of (K : PySem.W.Frag) : Sp := fun vs H Q _ => ∃ (x : V) (dim : Dim) (m : Nat), vs = [x, .int m] ∧ IsDim K H x dim ∧ dim.2.length ≤ 1000 ∧ ∀ a us H', Same H H' → H' a = some (.lst us) → IsL K H' us (standsOf dim.2 m) → Q (.ref a) H'
def sp_deeds_of (K : PySem.W.Frag) : Sp := fun vs H Q _ => ∃ (x : V) (dim : Dim) (m : Nat), vs = [x, .int m] ∧ IsDim K H x dim ∧ DimOk dim ∧ m ∈ dim.2 ∧ Q (.int (deedsN dim m : Nat)) H
def sp_are_marks (K : PySem.W.Frag) : Sp := fun vs H Q _ => ∃ (x y : V) (dim : Dim), vs = [x, y] ∧ Is K H x dim.1 ∧ Mk K H y dim.2 ∧ DimOk dim ∧ ∀ H', Same H H' → Q (.bl true) H'
def sp_is_dim_by (K : PySem.W.Frag) : Sp := fun vs H Q _ => ∃ (x : V) (dim : Dim), vs = [x] ∧ IsDim K H x dim ∧ DimOk dim ∧ ∀ H', Same H H' → Q (.bl true) H'
def sp_hold_at (K : PySem.W.Frag) : Sp := fun vs H Q _ => ∃ (x y : V) (dim : Dim) (m : Nat) (l : List Rat), vs = [x, .int m, y] ∧ IsDim K H x dim ∧ Is K H y l ∧ l.length ≤ 1000 ∧ ∀ v H', Same H H' → Is K H' v (holdAt dim.2 m l) → Q v H'
def sp_holds_by (K : PySem.W.Frag) : Sp := fun vs H Q _ => ∃ (x y : V) (dim : Dim) (l : List Rat), vs = [x, y] ∧ IsDim K H x dim ∧ Is K H y l ∧ l.length ≤ 1000 ∧ dim.2 ≠ [] ∧ mmany dim.2 ≤ 1000 ∧ ∀ v H', Same H H' → Is K H' v (holdsBy dim.2 l) → Q v H'
section
variable {P : Program} {w : World} {K : PySem.W.Frag} {mg : Str → Option Value} {base : Heap}
theorem ok_marks_in (T : Tx K mg) : FnOk P w K mg base CX0 1 (He.ga K "marks_in") (fdAt K (He.ga K "marks_in")) ["dim"] (sp_marks_in K) := by
  refine FunD.ok T.F_marks_in sc_marks_in (fun vs H Q E h => by obtain ⟨x, dim, rfl, _⟩ := h; rfl) (fun cdv A outer s H vs Q E hr h => ⟨_, PSs.nox (pss_one (ps_ret (pe_op op_add (pe_callB (kc_maxT K rfl hr.units) (by rfl) T.z_max bt_max (pa_cons (pe_ix (ki_tup K) (pv 0) pe_int (fun _ _ => rfl)) pa_nil)) pe_int))), ?_⟩)
  obtain ⟨x, dim, rfl, hx, ne, k⟩ := h
  obtain ⟨a, x1, x2, rfl, ta, h1, b, o, us, rfl, hb, oc, od, lb⟩ := hx
  walk_at "g"
  refine x_maxM (TupA.frz hb) lb ne ?_
  walk_at "g"
  exact k
theorem ok_stands_of (T : Tx K mg) : FnOk P w K mg base CX0 1 (He.ga K "stands_of") (fdAt K (He.ga K "stands_of")) ["dim", "mark"] (sp_stands_of K) := by
  refine FunD.ok T.F_stands_of sc_stands_of (fun vs H Q E h => by obtain ⟨x, dim, m, rfl, _⟩ := h; rfl) (fun cdv A outer s H vs Q E hr h => ⟨_, PSs.nox (pss_one (ps_ret (pe_lc (own := [("stand", 2), ("each", 3)]) rfl sc_stands_of.nd (kp_enum K true (by rfl) T.z_enumerate (pa_cons (pe_ix (ki_tup K) (pv 0) pe_int (fun _ _ => rfl)) pa_nil)) (blkOk_by (by kernel_rfl)) (fun _ _ _ _ _ => (kg_tup K (n := 2) rfl (pgs_cons (pg_name (i := 2) sc_stands_of.nd rfl (Or.inl rfl) (Or.inr rfl)) (pgs_cons (pg_name (i := 3) sc_stands_of.nd rfl (Or.inl rfl) (Or.inr rfl)) pgs_nil)))) (fun _ _ _ _ _ => (pts_one (pt_cmpR op_eq (pv 3) (pv 1) (nomark _)))) (fun _ _ _ _ _ => (pv 2))))), ?_⟩)
  obtain ⟨x, dim, m, rfl, hx, l3, k⟩ := h
  obtain ⟨a, x1, x2, rfl, ta, h1, b, o, us, rfl, hb, oc, od, lb⟩ := hx
  have e1 := isl_len lb
  walk_at "g"
  have tb := TupA.frz (K := K) hb
  refine ⟨b, us, rfl, tb.sqx, x_lc (K := K) walk_e (by omega) (fun H2 e => sqx_same e tb.sqx) (fun s => if dim.2[s]? = some m then some s else none) ?_ ypair_same ?_⟩
  · rintro i x H2 H3 R N hi e ⟨Tq, u1, u2, rfl, nT, rfl, g1, g2⟩ yes no
    cases g1
    obtain ⟨q, gq, hq⟩ := isl_get lb g2
    cases is_nat hq
    refine x_gpair (.of upd_same) ⟨rfl, ?_⟩
    walk_at "g"
    by_cases c : q = m
    · subst c
      refine x_t (by simp) ?_
      walk_at "g"
      exact yes i (by rw [if_pos gq]) _ _ (Same.refl _) (.int _)
    · refine x_f (by simp; omega) ?_
      exact no (by rw [if_neg (by rw [gq]; intro z; exact c (Option.some.inj z))]) _ (Same.refl _)
  · intro L H2 zs nL e hL il
    rw [e1] at il
    exact k L zs H2 e hL il
theorem ok_deeds_of (T : Tx K mg) : FnOk P w K mg base CX0 1 (He.ga K "deeds_of") (fdAt K (He.ga K "deeds_of")) ["dim", "mark"] (sp_deeds_of K) := by
  refine FunD.ok T.F_deeds_of sc_deeds_of (fun vs H Q E h => by obtain ⟨x, dim, m, rfl, _⟩ := h; rfl) (fun cdv A outer s H vs Q E hr h => ⟨_, PSs.nox (pss_one (ps_ret (pe_callB (kc_len K) (by rfl) T.z_len bt_len (pa_cons (pe_ix (ki_tup K) (pe_ix (ki_tup K) (pe_ix (ki_tup K) (pv 0) pe_int (fun _ _ => rfl)) pe_int (fun _ _ => rfl)) (ke_tix K (pe_ix (ki_tup K) (pv 0) pe_int (fun _ _ => rfl)) (pa_cons (pv 1) pa_nil)) (fun _ _ => rfl)) pa_nil)))), ?_⟩)
  obtain ⟨x, dim, m, rfl, hx, dk, hm, k⟩ := h
  obtain ⟨a, x1, x2, rfl, ta, h1, b, o, us, rfl, hb, oc, od, lb⟩ := hx
  obtain ⟨c, y1, y2, y3, rfl, tc, q1, q2, q3⟩ := is_house h1
  obtain ⟨d, ss, rfl, td, ld⟩ := is_list q3
  obtain ⟨s, g1, g2, g3⟩ := dk.at hm
  walk_at "g"
  refine ⟨⟨b, o, us, rfl, hb, oc, od⟩, ?_⟩
  walk_at "g"
  refine x_index (TupA.frz hb) lb hm ?_
  refine x_atT td ld g1 fun u hu => ?_
  walk_at "g"
  refine x_len hu ?_
  walk_at "g"
  rw [← g3]
  exact k
theorem ok_are_marks (T : Tx K mg) : FnOk P w K mg base CX0 3 (He.ga K "are_marks") (fdAt K (He.ga K "are_marks")) ["house", "value"] (sp_are_marks K) := by
  obtain ⟨_, m_MOST_MARK⟩ := T.i_MOST_MARK
  refine FunD.ok T.F_are_marks sc_are_marks (fun vs H Q E h => by obtain ⟨x, y, dim, rfl, _⟩ := h; rfl) (fun cdv A outer s H vs Q E hr h => ⟨_, PSs.nox (pss_cons (ps_if (PW.pt (pw_or (pt_not (pt_val (pe_call (ok_is_tuple_of T) (hr.mono (by decide)) (by rfl) T.m_is_tuple_of T.F_is_tuple_of.kp (b_is_tuple_of T) .nil pass0 (pa_cons (pv 1) (pa_cons (pe_callB (kc_len K) (by rfl) T.z_len bt_len (pa_cons (pe_ix (ki_tup K) (pv 0) pe_int (fun _ _ => rfl)) pa_nil)) pa_nil))))) (pw_or1 (pt_not (pt_val (pe_callB (kc_all K rfl) (by rfl) T.z_all bt_all (pa_cons (pe_lc (own := [("each", 3)]) rfl sc_are_marks.nd (kp_sq K true (pv 1)) (blkOk_by (by kernel_rfl)) (fun _ _ _ _ _ => (pg_name (i := 3) sc_are_marks.nd rfl (Or.inl rfl) (Or.inr rfl))) (fun _ _ _ _ _ => pts_nil) (fun _ _ _ _ _ => (pe_call (ok_is_between T) (hr.mono (by decide)) (by rfl) T.m_is_between T.F_is_between.kp (b_is_between T) .nil pass0 (pa_cons (pv 3) (pa_cons pe_int (pa_cons (pe_glob (v := .int 2) (by rfl) m_MOST_MARK ⟨_, rfl⟩) pa_nil)))))) pa_nil))))))) (pss_one (ps_ret pe_bl)) pss_nil)
    (pss_cons (ps_if (pt_val (pe_callB (kc_any K rfl) (by rfl) T.z_any bt_any (pa_cons (pe_lc (own := [("each", 3)]) rfl sc_are_marks.nd (kp_sq K true (pv 1)) (blkOk_by (by kernel_rfl)) (fun _ _ _ _ _ => (pg_name (i := 3) sc_are_marks.nd rfl (Or.inl rfl) (Or.inr rfl))) (fun _ _ _ _ _ => pts_nil) (fun _ _ _ _ _ => (pe_and (pe_cmpR op_gt (pv 3) pe_int (nomark _)) (pe_one (pe_cmpR (ko_notIn K) (pe_op op_sub (pv 3) pe_int) (pv 1) rfl))))) pa_nil))) (pss_one (ps_ret pe_bl)) pss_nil)
    (pss_cons (ps_setLc (i := 2) (own := [("each", 3)]) rfl sc_are_marks.nd rfl rfl (sw_true rfl rfl rfl (by decide +kernel)) (kp_sq K true (pv 1)) (blkOk_by (by kernel_rfl)) (fun _ _ _ _ _ => (pg_name (i := 3) sc_are_marks.nd rfl (Or.inl rfl) (Or.inr rfl))) (fun _ _ _ _ _ => pts_nil) (fun _ _ _ _ _ => (pe_ix (ki_tup K) (pe_ix (ki_tup K) (pv 0) pe_int (fun _ _ => rfl)) (ke_tix K (pv 1) (pa_cons (pv 3) pa_nil)) (fun _ _ => rfl))))
    (pss_one (ps_ret (pe_callB (kc_all K rfl) (by rfl) T.z_all bt_all (pa_cons (pe_lc (own := [("deeds", 4), ("first", 5)]) rfl sc_are_marks.nd (kp_zip K true false (by rfl) T.z_zip (pa_cons (pe_ix (ki_tup K) (pv 0) pe_int (fun _ _ => rfl)) (pa_cons (pv 2) pa_nil))) (blkOk_by (by kernel_rfl)) (fun _ _ _ _ _ => (kg_tup K (n := 2) rfl (pgs_cons (pg_name (i := 4) sc_are_marks.nd rfl (Or.inl rfl) (Or.inr rfl)) (pgs_cons (pg_name (i := 5) sc_are_marks.nd rfl (Or.inl rfl) (Or.inr rfl)) pgs_nil)))) (fun _ _ _ _ _ => pts_nil) (fun _ _ _ _ _ => (pe_cmpR op_eq (pe_callB (kc_len K) (by rfl) T.z_len bt_len (pa_cons (pv 4) pa_nil)) (pe_callB (kc_len K) (by rfl) T.z_len bt_len (pa_cons (pv 5) pa_nil)) (nomark _)))) pa_nil))))))), ?_⟩)
  obtain ⟨x, y, dim, rfl, h1, ⟨b, o, us, rfl, hb, oc, od, lb⟩, dk, k⟩ := h
  obtain ⟨c, y1, y2, y3, rfl, tc, q1, q2, q3⟩ := is_house h1
  obtain ⟨d, ss, rfl, td, ld⟩ := is_list q3
  have e1 := isl_len lb
  have e2 := isl_len ld
  have n8 := dk.ho.n1
  have ln := dk.ln
  have tb := TupA.frz (K := K) hb
  walk_at "g"
  refine x_lenT td ?_
  walk_at "g"
  refine ⟨b, us, by rw [e1, e2, ln]; rfl, tb, ?_⟩
  walk_at "g"
  refine ⟨b, rfl, ⟨us, tb.sqx⟩, x_lcL (K := K) (dim.2.map fun _ => true) (walk_s true) (by rw [List.length_map, e1]) (by omega) (fun H2 e => sqx_same e tb.sqx) yat_same ?_ ?_⟩
  · rintro i x y H2 H3 R N gy e ⟨rfl, g1⟩ done
    obtain ⟨p, gp, hp⟩ := isl_get lb g1
    rw [List.getElem?_map, gp] at gy
    cases gy
    have := dk.m2 p (List.mem_of_getElem? gp)
    cases is_nat hp
    refine x_name ⟨rfl, ?_⟩
    walk_at "g"
    exact ⟨_, _, _, rfl, by omega, by omega, done _ _ (Same.refl _) (.bl true)⟩
  · intro L H2 zs nL e3 hL il
    walk_at "g"
    refine x_all hL il ?_
    rw [all_true]
    have tb2 := tb.mono (kp_same e3)
    walk_at "g"
    refine ⟨b, rfl, ⟨us, tb2.sqx⟩, x_lcL (K := K) (dim.2.map fun _ => false) (walk_s true) (by rw [List.length_map, e1]) (by omega) (fun H2 e => sqx_same e tb2.sqx) yat_same ?_ ?_⟩
    · rintro i x y H4 H5 R N gy e ⟨rfl, g1⟩ done
      obtain ⟨p, gp, hp⟩ := isl_get lb g1
      rw [List.getElem?_map, gp] at gy
      cases gy
      have mp := List.mem_of_getElem? gp
      cases is_nat hp
      refine x_name ⟨rfl, ?_⟩
      walk_at "g"
      by_cases c : p = 0
      · subst c
        refine x_f rfl ?_
        exact done _ _ (Same.refl _) (.bl false)
      · refine x_t (by simp; omega) ?_
        walk_at "g"
        have m1 : p - 1 ∈ dim.2 := dk.all _ (by have := dk.lt mp; omega)
        rw [show (p : Int) - 1 = ((p - 1 : Nat) : Int) by omega]
        exact x_in (tb2.mono (kp_same e)) (TpAll.mono (kp_same (e3.trans e)) lb) m1 (done _ _ (Same.refl _) (.bl false))
    · intro L2 H4 zs2 nL2 e4 hL2 il2
      have e34 := e3.trans e4
      walk_at "g"
      refine x_any hL2 il2 ?_
      rw [any_false]
      have tb4 := tb.mono (kp_same e34)
      walk_at "g"
      refine ⟨b, rfl, ⟨us, tb4.sqx⟩, x_lcL (K := K) (dim.2.map fun m => dim.1.st.getD (dim.2.idxOf m) []) (walk_s true) (by rw [List.length_map, e1]) (by omega) (fun H2 e => sqx_same e tb4.sqx) yat_same ?_ ?_⟩
      · rintro i x y H5 H6 R N gy e ⟨rfl, g1⟩ done
        obtain ⟨p, gp, hp⟩ := isl_get lb g1
        rw [List.getElem?_map, gp] at gy
        cases gy
        have mp := List.mem_of_getElem? gp
        obtain ⟨s, g3, g4, g5⟩ := dk.at mp
        have e5 := e34.trans e
        have tc5 := tc.mono (kp_same e5)
        cases is_nat hp
        refine x_name ⟨rfl, ?_⟩
        walk_at "g"
        refine ⟨⟨b, o, us, rfl, e5 _ _ hb, oc, od⟩, ?_⟩
        walk_at "g"
        refine x_index (tb.mono (kp_same e5)) (TpAll.mono (kp_same e5) lb) mp ?_
        refine x_atT (td.mono (kp_same e5)) (TpAll.mono (kp_same e5) ld) g3 fun u hu => ?_
        refine done _ _ (Same.refl _) ?_
        have eg : dim.1.st.getD (dim.2.idxOf p) [] = s := by rw [List.getD_eq_getElem?_getD, g3]; rfl
        show Is K H6 u (dim.1.st.getD (dim.2.idxOf p) [])
        rw [eg]
        exact hu
      · intro L3 H5 zs3 nL3 e5 hL3 il3
        have e35 := e34.trans e5
        have e6 := isl_len il3
        rw [List.length_map] at e6
        have td5 := td.mono (kp_same e35)
        have tc5 := tc.mono (kp_same e35)
        have sL : SqX K false H5 L3 zs3 := SqL.of hL3
        walk_at "g"
        refine ⟨d, L3, ss, zs3, rfl, td5.sqx, sL, x_lcL (K := K) (dim.2.map fun _ => true) (walk_x rfl) (by rw [List.length_map, e6, e2, ln]; exact Nat.min_self _) (by omega) (fun H2 e => ⟨sqx_same e td5.sqx, sqx_same e sL⟩) ypair_same ?_ ?_⟩
        · rintro i x y H6 H7 R N gy e ⟨Tq, u1, u2, rfl, nT, rfl, g1, g2⟩ done
          obtain ⟨s1, gs1, hs1⟩ := isl_get ld g1
          obtain ⟨s2, gs2, hs2⟩ := isl_get il3 g2
          rw [List.getElem?_map] at gs2 gy
          obtain ⟨m, gm, rfl⟩ := Option.map_eq_some_iff.mp gs2
          rw [gm] at gy
          cases gy
          have ev := dk.ev i m gm
          have e7 := e.trans (same_new (o := .tup [u1, u2]) nT)
          refine x_gpair (.of upd_same) ⟨rfl, ?_⟩
          walk_at "g"
          refine x_len (Tp.mono (kp_same (e35.trans e7)) hs1) ?_
          walk_at "g"
          refine x_len (Tp.mono (kp_same e7) hs2) ?_
          walk_at "g"
          have ev2 : s1.length = (dim.1.st.getD (dim.2.idxOf m) []).length := by
            rw [List.getD_eq_getElem?_getD, gs1] at ev
            exact ev
          rw [decide_eq_true (by omega)]
          exact done _ _ (Same.refl _) (.bl true)
        · intro L4 H6 zs4 nL4 e7 hL4 il4
          walk_at "g"
          refine x_all hL4 il4 ?_
          rw [all_true]
          exact k _ (e35.trans e7)
theorem ok_is_dim_by (T : Tx K mg) : FnOk P w K mg base CX0 8 (He.ga K "is_dim_by") (fdAt K (He.ga K "is_dim_by")) ["value"] (sp_is_dim_by K) := by
  refine FunD.ok T.F_is_dim_by sc_is_dim_by (fun vs H Q E h => by obtain ⟨x, dim, rfl, _⟩ := h; rfl) (fun cdv A outer s H vs Q E hr h => ⟨_, PSs.nox (pss_one (ps_ret (pe_and (pe_call (ok_is_tuple_of T) (hr.mono (by decide)) (by rfl) T.m_is_tuple_of T.F_is_tuple_of.kp (b_is_tuple_of T) .nil pass0 (pa_cons (pv 0) (pa_cons pe_int pa_nil))) (pe_and (pe_call (ok_is_house_by T) (hr.mono (by decide)) (by rfl) T.m_is_house_by T.F_is_house_by.kp (b_is_house_by T) .nil pass0 (pa_cons (pe_ix (ki_tup K) (pv 0) pe_int (fun _ _ => rfl)) pa_nil)) (pe_one (pe_call (ok_are_marks T) (hr.mono (by decide)) (by rfl) T.m_are_marks T.F_are_marks.kp (b_are_marks T) .nil pass0 (pa_cons (pe_ix (ki_tup K) (pv 0) pe_int (fun _ _ => rfl)) (pa_cons (pe_ix (ki_tup K) (pv 0) pe_int (fun _ _ => rfl)) pa_nil)))))))), ?_⟩)
  obtain ⟨x, dim, rfl, hx, dk, k⟩ := h
  obtain ⟨a, x1, x2, rfl, ta, h1, h2⟩ := hx
  walk_at "g"
  refine ⟨a, _, rfl, ta, ?_⟩
  walk_at "g"
  refine ⟨x1, dim.1, rfl, h1, dk.ho, fun H1 e1 => ?_⟩
  have ta1 := ta.mono (kp_same e1)
  walk_at "g"
  exact ⟨x1, x2, dim, rfl, Tp.mono (kp_same e1) h1, h2.mono (kp_same e1), dk, fun H2 e2 => k _ (e1.trans e2)⟩
theorem ok_hold_at (T : Tx K mg) : FnOk P w K mg base CX0 1 (He.ga K "hold_at") (fdAt K (He.ga K "hold_at")) ["dim", "mark", "numbers"] (sp_hold_at K) := by
  refine FunD.ok T.F_hold_at sc_hold_at (fun vs H Q E h => by obtain ⟨x, y, dim, m, l, rfl, _⟩ := h; rfl) (fun cdv A outer s H vs Q E hr h => ⟨_, PSs.nox (pss_one (ps_ret (pe_callTy (kc_tuple K) (by rfl) T.z_tuple bt_tuple (pa_cons (pe_lc (own := [("there", 3), ("each", 4)]) rfl sc_hold_at.nd (kp_zip K true true (by rfl) T.z_zip (pa_cons (pe_ix (ki_tup K) (pv 0) pe_int (fun _ _ => rfl)) (pa_cons (pv 2) pa_nil))) (blkOk_by (by kernel_rfl)) (fun _ _ _ _ _ => (kg_tup K (n := 2) rfl (pgs_cons (pg_name (i := 3) sc_hold_at.nd rfl (Or.inl rfl) (Or.inr rfl)) (pgs_cons (pg_name (i := 4) sc_hold_at.nd rfl (Or.inl rfl) (Or.inr rfl)) pgs_nil)))) (fun _ _ _ _ _ => pts_nil) (fun _ _ _ _ _ => (pe_ifExp (pt_cmpR op_eq (pv 3) (pv 1) (nomark _)) (pv 4) (pe_glob (v := .ref (He.ga K "ZERO")) (by rfl) T.m_ZERO rfl)))) pa_nil)))), ?_⟩)
  obtain ⟨x, y, dim, m, l, rfl, hx, hy, hl, k⟩ := h
  obtain ⟨a, x1, x2, rfl, ta, h1, b, o, us, rfl, hb, oc, od, lb⟩ := hx
  obtain ⟨c, zs, rfl, tc, lc⟩ := is_list hy
  have e1 := isl_len lb
  have e2 := isl_len lc
  have tb := TupA.frz (K := K) hb
  walk_at "g"
  refine ⟨b, c, us, zs, rfl, tb.sqx, tc.sqx, x_lcL (K := K) (holdAt dim.2 m l) (walk_x rfl) (by unfold holdAt; rw [List.length_zipWith, e1, e2]) (by omega) (fun H2 e => ⟨sqx_same e tb.sqx, sqx_same e tc.sqx⟩) ypair_same ?_ ?_⟩
  · rintro i x y H6 H7 R N gy e ⟨Tq, u1, u2, rfl, nT, rfl, g1, g2⟩ done
    obtain ⟨t, gt, ht⟩ := isl_get lb g1
    obtain ⟨q, gq, hq⟩ := isl_get lc g2
    unfold holdAt at gy
    rw [List.getElem?_zipWith, gt, gq] at gy
    cases gy
    have e7 := e.trans (same_new (o := .tup [u1, u2]) nT)
    cases is_nat ht
    refine x_gpair (.of upd_same) ⟨rfl, ?_⟩
    walk_at "g"
    by_cases c : t = m
    · refine x_t (by simp [c]) ?_
      walk_at "g"
      refine done _ _ (Same.refl _) ?_
      rw [if_pos c]
      exact Tp.mono (kp_same e7) hq
    · refine x_f (by simp; omega) ?_
      walk_at "g"
      refine done _ _ (Same.refl _) ?_
      rw [if_neg c]
      exact zero_is T _
  · intro L H6 zs3 nL e6 hL il
    walk_at "g"
    refine ⟨L, zs3, rfl, .inl ⟨SqL.of hL, fun t o nt oc od => ?_⟩⟩
    walk_at "g"
    have s7 := same_new (o := .frz o (.tup zs3)) nt
    exact k _ _ (e6.trans s7) (is_list_mk (TupA.frz (K := K) (o := o) upd_same) (TpAll.mono (kp_same s7) il))
theorem ok_holds_by (T : Tx K mg) : FnOk P w K mg base CX0 2 (He.ga K "holds_by") (fdAt K (He.ga K "holds_by")) ["dim", "numbers"] (sp_holds_by K) := by
  refine FunD.ok T.F_holds_by sc_holds_by (fun vs H Q E h => by obtain ⟨x, y, dim, l, rfl, _⟩ := h; rfl) (fun cdv A outer s H vs Q E hr h => ⟨_, PSs.nox (pss_one (ps_ret (pe_callTy (kc_tuple K) (by rfl) T.z_tuple bt_tuple (pa_cons (pe_lc (own := [("mark", 2)]) rfl sc_holds_by.nd (pi_range1 rfl T.z_range (pa_cons (pe_call (ok_marks_in T) (hr.mono (by decide)) (by rfl) T.m_marks_in T.F_marks_in.kp (b_marks_in T) .nil pass0 (pa_cons (pv 0) pa_nil)) pa_nil)) (blkOk_by (by kernel_rfl)) (fun _ _ _ _ _ => (pg_name (i := 2) sc_holds_by.nd rfl (Or.inl rfl) (Or.inr rfl))) (fun _ _ _ _ _ => pts_nil) (fun _ _ _ _ _ => (pe_call (ok_hold_at T) (hr.mono (by decide)) (by rfl) T.m_hold_at T.F_hold_at.kp (b_hold_at T) .nil pass0 (pa_cons (pv 0) (pa_cons (pv 2) (pa_cons (pv 1) pa_nil)))))) pa_nil)))), ?_⟩)
  obtain ⟨x, y, dim, l, rfl, hx, hy, hl, ne, hm, k⟩ := h
  walk_at "g"
  refine ⟨x, dim, rfl, hx, ne, ?_⟩
  walk_at "g"
  refine ⟨_, rfl, by omega, by omega, x_lcL (K := K) (holdsBy dim.2 l) walk_range (by unfold holdsBy; rw [List.length_map, List.length_range]; rfl) (by omega) (fun _ _ => trivial) yfn_same ?_ ?_⟩
  · rintro i x y H6 H7 R N gy e ⟨rfl, rfl⟩ done
    unfold holdsBy at gy
    rw [List.getElem?_map] at gy
    obtain ⟨j, gj, rfl⟩ := Option.map_eq_some_iff.mp gy
    have ej : j = i := by
      rw [List.getElem?_eq_some_iff] at gj
      obtain ⟨_, z⟩ := gj
      simpa using z.symm
    subst ej
    refine x_name ⟨rfl, ?_⟩
    walk_at "g"
    refine ⟨_, _, dim, j, l, by simp, hx.mono (kp_same e), Tp.mono (kp_same e) hy, hl, done⟩
  · intro L H6 zs3 nL e6 hL il
    walk_at "g"
    refine ⟨L, zs3, rfl, .inl ⟨SqL.of hL, fun t o nt oc od => ?_⟩⟩
    walk_at "g"
    have s7 := same_new (o := .frz o (.tup zs3)) nt
    exact k _ _ (e6.trans s7) (is_list_mk (TupA.frz (K := K) (o := o) upd_same) (TpAll.mono (kp_same s7) il))
end
end K66

/-! W7: the best by sight (own work) -/
namespace K66
open PySem PySem.Spec PyProof.Rows L2
local macro_rules | `(tactic| walk_at "kp") => `(tactic| first
  | exact Kp.refl _
  | assumption
  | (refine Kp.trans (by assumption) ?_; walk_at "kp")
  | (refine Kp.trans (kp_same (by assumption)) ?_; walk_at "kp"))
local macro_rules | `(tactic| walk_at "is") => `(tactic| first
  | assumption
  | (refine Tp.mono ?_ (by assumption); walk_at "kp"))
local macro_rules | `(tactic| walk_at "x") => `(tactic| with_reducible first
  | refine x_seq ?_ | refine x_ret ?_ | refine x_asg ?_ | refine x_ifs ?_ | refine x_drop ?_ | refine x_next ?_ | refine x_call ?_ | refine x_cb ?_ | refine x_cons ?_ | refine x_nil ?_
  | refine x_op ?_ | refine x_un ?_ | refine x_c ?_ | refine x_i0 ?_ | refine x_u ?_ | refine x_eqI ?_ | refine x_neI ?_ | refine x_test ?_ | refine x_tb ?_ | refine x_bl ?_ | refine x_not ?_
  | refine x_and ?_ | refine x_or ?_ | refine x_andV ?_ | refine x_orV ?_ | refine x_notV ?_ | refine x_if ?_ | refine x_tup ?_ | refine x_lst ?_ | refine x_name ?_ | refine x_gcd ?_ | refine x_for ?_ | refine x_par ?_ | refine x_par3 ?_ | refine x_two ?_ | refine x_three ?_ | refine x_lcd ?_ | refine x_yes ?_ | refine x_isq ?_ | refine x_izip ?_ | refine x_ienum ?_ | refine x_irng ?_ | refine x_kt ?_ | refine x_isiI ?_ | refine x_isiB ?_ | refine x_chain ?_ | refine x_sl ?_ | refine x_part ?_ | refine x_nopart ?_ | refine x_isint ?_ | refine x_bm ?_ | refine x_tix ?_ )
local macro_rules | `(tactic| walk_at "v") => `(tactic| ((with_reducible refine x_var (v := ?kv) ?k1 ?_); (case k1 => exact rfl)))
local macro_rules | `(tactic| walk_at "n") => `(tactic| first
  | ((with_reducible refine x_num (q := ?kv) ?k1 ?_); (case k1 => walk_at "is"))
  | ((with_reducible refine x_den (q := ?kv) ?k1 ?_); (case k1 => walk_at "is")))
local macro_rules | `(tactic| walk_at "m") => `(tactic| ((with_reducible refine x_i ?k1 ?_); (case k1 => first | exact mw_nd (by assumption) (by assumption) | exact mw_nn (by assumption) (by assumption) | exact mw_dd (by assumption) (by assumption))))
local macro_rules | `(tactic| walk_at "tu") => `(tactic| first
  | assumption
  | (refine TupA.mono ?_ (by assumption); walk_at "kp"))
local macro_rules | `(tactic| walk_at "i") => `(tactic| first
  | ((with_reducible refine x_ix0 (us := ?ku) (v := ?kv) ?k1 ?k2 ?_); (case k1 => walk_at "tu"); (case k2 => exact rfl))
  | ((with_reducible refine x_ix1 (us := ?ku) (v := ?kv) ?k1 ?k2 ?_); (case k1 => walk_at "tu"); (case k2 => exact rfl))
  | ((with_reducible refine x_ix2 (us := ?ku) (v := ?kv) ?k1 ?k2 ?_); (case k1 => walk_at "tu"); (case k2 => exact rfl)))
local macro_rules | `(tactic| walk_at "ht") => `(tactic| refine x_t (by first | rfl | (simp; done) | (simp; omega)) ?_)
local macro_rules | `(tactic| walk_at "hf") => `(tactic| refine x_f (by first | rfl | (simp; done) | (simp; omega)) ?_)
local macro_rules | `(tactic| walk_at "g") => `(tactic| repeat (first | walk_at "x" | walk_at "v" | walk_at "n" | walk_at "i" | walk_at "m" | ((with_reducible refine x_f ?k1 ?_); (case k1 => exact rfl)) | ((with_reducible refine x_t ?k1 ?_); (case k1 => exact rfl))))

section
variable {K : PySem.W.Frag} {σ : L2.St} {H H1 : Hp} {Q : VK} {v x y : V} {a b : Addr}
theorem x_cutT {us : List V} {lo hi : Option Int} (t : TupA K H a us) (k : ∀ c H', Same H H' → TupA K H' c (cutV us lo hi) → Q (.ref c) H') : rSlA K (.ref a) lo hi H Q := by
  refine ⟨a, us, rfl, t, fun h => ?_, fun _ p hp => k p _ (same_new hp) (.of upd_same)⟩
  have e : cutV us lo hi = us := by
    unfold cutV
    rw [h.1, h.2]
    simp
  exact k a H (Same.refl _) (by rw [e]; exact t)
theorem x_catT {us vs : List V} (t : TupA K H a us) (u : TupA K H b vs) (hz : us.length + vs.length ≤ 10000) (k : ∀ c H', Same H H' → TupA K H' c (us ++ vs) → Q (.ref c) H') : rCatA K (.ref a) (.ref b) H Q := by
  have a3 : sizeLine = 16777216 := sizeLine_eq
  refine ⟨a, b, us, vs, rfl, rfl, t, u, by omega, fun e => ?_, fun _ e => ?_, fun _ _ p hp => k p _ (same_new hp) (.of upd_same)⟩
  · exact k b H (Same.refl _) (by rw [e]; exact u)
  · exact k a H (Same.refl _) (by rw [e, List.append_nil]; exact t)
/-- a comprehension whose items answer by a relation -/
theorem x_lcR {Qd : Addr → Hp → Prop} (Rl : Nat → Hp → V → Prop) (mono : ∀ i H H' v, Kp H H' → Rl i H v → Rl i H' v) {J : It} {n : Nat} {G : Hp → Prop} {Y : Nat → Hp → V → Hp → Prop} {g : TG} {tt : TT} {te : TE} {vs : List Nat} (w : Walk J n G Y) (hn : n ≤ 100000) (hG : ∀ H2, Same H1 H2 → G H2)
    (hY : ∀ (i : Nat) (x : V) (H2 H3 : Hp), Y i H2 x H3 → Same H2 H3)
    (turn : ∀ (i : Nat) (x : V) (H2 H3 : Hp) (R : VK) (N : Hp → Prop), i < n → Same H1 H2 → Y i H2 x H3 → (∀ u H4, Same H3 H4 → Rl i H4 u → R u H4) →
      g x (wipe σ vs) H3 fun σ2 H4 => wipe σ2 vs = wipe σ vs ∧ tt σ2 H4 fun b H5 => if b = true then te σ2 H5 R else N H5)
    (done : ∀ (D : Addr) (H2 : Hp) (us : List V), H1 D = none → Same H1 H2 → H2 D = some (.lst us) → us.length = n → (∀ (i : Nat) (v : V), us[i]? = some v → Rl i H2 v) → Qd D H2) :
    ∀ D, H1 D = none → ∃ W : Nat → Nat → Hp → Prop, (∃ m, W 0 m (upd H1 D (.lst []))) ∧ ∀ i m H, W i m H →
      (J.stop i H ∧ Qd D H) ∨ (J.go i H ∧ ∃ Nx : Hp → Prop, (∀ H', Nx H' → ∃ m', m' < m ∧ W (i + 1) m' H') ∧ ∀ x H', J.yld i H x H' → g x (wipe σ vs) H' fun σ2 H2 => wipe σ2 vs = wipe σ vs ∧ tt σ2 H2 fun b H3 =>
        if b = true then te σ2 H3 fun y H4 => ∃ acc, H4 D = some (.lst acc) ∧ acc.length < sizeLine ∧ Nx (upd H4 D (.lst (acc ++ [y]))) else Nx H3) := by
  intro D hD
  refine lc_it w (fun i H => Same H1 H ∧ ∃ us, H D = some (.lst us) ∧ us.length = i ∧ ∀ (j : Nat) (v : V), us[j]? = some v → Rl j H v) ⟨same_new hD, [], upd_same, rfl, fun j v z => by simp at z⟩ (fun i H _ p => hG H p.1) (fun i x H2 H3 hi p y => ?_) (fun H p => ?_)
  · obtain ⟨e1, us, eD, hl, hq⟩ := p
    have e2 := hY i x H2 H3 y
    refine turn i x H2 H3 _ _ hi e1 y (fun u H4 e3 hu => ⟨us, e3 _ _ (e2 _ _ eD), ?_, ?_, us ++ [u], upd_same, ?_, ?_⟩)
    · have a3 : sizeLine = 16777216 := sizeLine_eq
      omega
    · exact Same.mut ((e1.trans e2).trans e3) hD
    · rw [List.length_append, hl]; rfl
    · have k2 : Kp H4 (upd H4 D (.lst (us ++ [u]))) := kp_upd (e3 _ _ (e2 _ _ eD)) id
      intro j v z1
      rcases Nat.lt_trichotomy j us.length with c | c | c
      · rw [List.getElem?_append_left c] at z1
        exact mono _ _ _ _ (((kp_same e2).trans (kp_same e3)).trans k2) (hq j v z1)
      · subst c
        rw [List.getElem?_append_right (Nat.le_refl _), Nat.sub_self] at z1
        cases z1
        rw [hl]
        exact mono _ _ _ _ k2 hu
      · rw [List.getElem?_eq_none (by rw [List.length_append]; show us.length + 1 ≤ j; omega)] at z1
        cases z1
  · obtain ⟨e1, us, eD, hl, hq⟩ := p
    exact done D H us hD e1 eD hl hq
end
theorem put_isl {K : PySem.W.Frag} {H : Hp} {us : List V} {l : List Rat} {g : Nat} {u : V} {q : Rat} (h : IsL K H us l) (hg : g < l.length) (hu : Is K H u q) : IsL K H (us.take g ++ [u] ++ us.drop (g + 1)) (l.set g q) := by
  have e : l.set g q = l.take g ++ [q] ++ l.drop (g + 1) := by
    rw [List.set_eq_take_append_cons_drop, if_pos hg, List.append_assoc]
    rfl
  rw [e]
  refine isl_app (isl_app ?_ (isl_one hu)) ?_
  · show TpAll K H _ ((l.take g).map Enc.enc)
    rw [List.map_take]
    exact TpAll.take g h
  · show TpAll K H _ ((l.drop (g + 1)).map Enc.enc)
    rw [List.map_drop]
    exact TpAll.drop _ h
theorem getD_at {l : List Rat} {i : Nat} (h : i < l.length) : l[i]? = some (l.getD i 0) := by
  rw [List.getD_eq_getElem?_getD, List.getElem?_eq_getElem h]
  rfl
structure Hd (dim : Dim) (m d D N : Nat) (x : List Rat) : Prop where
  dk : DimOk dim
  hz : HSz dim.1
  ln : x.length = dim.2.length
  d0 : 0 < D
  dB : D < 2 ^ 2300
  nB : N < 2 ^ 2300
  al : All D N x
  hd : d < deedsN dim m
theorem Hd.n8 {dim : Dim} {m d D N : Nat} {x : List Rat} (q : Hd dim m d D N x) : dim.2.length ≤ 8 := by
  rw [q.dk.ln]; exact q.dk.ho.n1
/-- the deed of a state of the mark -/
theorem Hd.deed {dim : Dim} {m d D N : Nat} {x : List Rat} (q : Hd dim m d D N x) {s : Nat} (h : dim.2[s]? = some m) :
    s < dim.2.length ∧ ∃ ds, dim.1.st[s]? = some ds ∧ ds ∈ dim.1.st ∧ ds[d]? = some (deedAt dim.1.st s d) ∧ deedAt dim.1.st s d ∈ ds := by
  have h1 : s < dim.2.length := (List.getElem?_eq_some_iff.mp h).1
  have h2 : s < dim.1.st.length := by rw [← q.dk.ln]; exact h1
  have h3 := List.getElem?_eq_getElem h2
  have e := q.dk.ev s m h
  have e2 : dim.1.st.getD s [] = dim.1.st[s] := by rw [List.getD_eq_getElem?_getD, h3]; rfl
  have h4 : d < (dim.1.st.getD s []).length := by rw [e]; exact q.hd
  obtain ⟨m1, m2⟩ := deedAt_mem h4
  rw [e2] at m1 m2
  refine ⟨h1, _, h3, m1, ?_, m2⟩
  unfold deedAt
  rw [e2] at h4 ⊢
  rw [List.getD_eq_getElem?_getD, List.getElem?_eq_getElem h4]
  rfl
def sp_behind_by (K : PySem.W.Frag) : Sp := fun vs H Q _ => ∃ (x y : V) (dim : Dim) (m d D N : Nat) (hold : List Rat), vs = [x, .int m, y, .int d] ∧ IsDim K H x dim ∧ Is K H y hold ∧ Hd dim m d D N hold ∧
  ∀ v H', Same H H' → Is K H' v (holdsBy dim.2 (behindL dim m hold d)) → Q v H'
def sp_gains_from (K : PySem.W.Frag) : Sp := fun vs H Q _ => ∃ (x z y : V) (dim : Dim) (ws : List Rat) (m d D N : Nat) (hold : List Rat), vs = [x, z, .int m, y, .int d] ∧ IsDim K H x dim ∧ Is K H z ws ∧ Is K H y hold ∧ Hd dim m d D N hold ∧ All 84 (2 ^ 71) ws ∧ ws.length ≤ 4 ∧
  ∀ v H', Same H H' → Is K H' v (gainsL ws dim m hold d) → Q v H'
/-- states walked, goals walked -/
def part1 (dim : Dim) (m : Nat) (x : List Rat) (d i : Nat) : List Rat := ((standsOf dim.2 m).take i).foldl (fun f s => behind1 (x.getD s 0) (deedAt dim.1.st s d).1 f) (List.replicate dim.2.length 0)
def part2 (dim : Dim) (m : Nat) (x : List Rat) (d i s j : Nat) : List Rat := behind1 (x.getD s 0) ((deedAt dim.1.st s d).1.take j) (part1 dim m x d i)
theorem part1_next {dim : Dim} {m : Nat} {x : List Rat} {d i s : Nat} (h : (standsOf dim.2 m)[i]? = some s) : part2 dim m x d i s (deedAt dim.1.st s d).1.length = part1 dim m x d (i + 1) := by
  unfold part2 part1
  rw [List.take_length, List.take_add_one, h, List.foldl_append]
  rfl
theorem part2_next {dim : Dim} {m : Nat} {x : List Rat} {d i s j : Nat} {c : Nat × Rat} (h : (deedAt dim.1.st s d).1[j]? = some c) :
    part2 dim m x d i s (j + 1) = (part2 dim m x d i s j).set c.1 ((part2 dim m x d i s j).getD c.1 0 + x.getD s 0 * c.2) := by
  unfold part2
  rw [List.take_add_one, h]
  exact behind1_snoc ..
theorem part1_len (dim : Dim) (m : Nat) (x : List Rat) (d i : Nat) : (part1 dim m x d i).length = dim.2.length := by
  unfold part1
  have gen : ∀ (ss : List Nat) (f : List Rat), (ss.foldl (fun f s => behind1 (x.getD s 0) (deedAt dim.1.st s d).1 f) f).length = f.length := by
    intro ss
    induction ss with
    | nil => intro f; rfl
    | cons s ss ih => intro f; rw [List.foldl_cons, ih, behind1_len]
  rw [gen, List.length_replicate]
theorem part2_len (dim : Dim) (m : Nat) (x : List Rat) (d i s j : Nat) : (part2 dim m x d i s j).length = dim.2.length := by
  unfold part2
  rw [behind1_len, part1_len]
theorem Hd.part2 {dim : Dim} {m d D N : Nat} {x : List Rat} (q : Hd dim m d D N x) {i s : Nat} (h : (standsOf dim.2 m)[i]? = some s) (j : Nat) : All (D * 2520) (161280 * N) (part2 dim m x d i s j) := by
  have hs := standsOf_mem.mp (List.mem_of_getElem? h)
  obtain ⟨_, ds, g1, g2, g3, g4⟩ := q.deed hs
  have a1 : All (D * 2520) ((0 + ((standsOf dim.2 m).take i).length) * 8 * (N * 2520)) (part1 dim m x d i) :=
    behind_all q.hz q.dk.ev q.d0 q.al q.hd ((standsOf dim.2 m).take i) 0 (List.replicate dim.2.length 0) (fun s hs => standsOf_mem.mp (List.mem_of_mem_take hs)) (fun z hz => by rw [List.eq_of_mem_replicate hz]; exact Bd.zero (by have := q.d0; omega) _)
  have a2 := behind1_all q.d0 (q.al.mem q.d0 s) ((deedAt dim.1.st s d).1.take j) _ (part1 dim m x d i) (fun c hc => q.hz.ch ds g2 _ g4 c (List.mem_of_mem_take hc)) a1
  refine a2.mono ?_
  have l1 : i < (standsOf dim.2 m).length := (List.getElem?_eq_some_iff.mp h).1
  have l2 := standsOf_len dim.2 m
  have l3 := q.n8
  have l4 := q.hz.c8 ds g2 _ g4
  rw [List.length_take, List.length_take]
  have e1 : min i (standsOf dim.2 m).length = i := by omega
  rw [e1]
  calc ((0 + i) * 8 + min j (deedAt dim.1.st s d).1.length) * (N * 2520) ≤ 64 * (N * 2520) := Nat.mul_le_mul_right _ (by omega)
    _ = 161280 * N := by omega
theorem Hd.szp {dim : Dim} {m d D N : Nat} {x : List Rat} (q : Hd dim m d D N x) {i s : Nat} (h : (standsOf dim.2 m)[i]? = some s) (j g : Nat) : Sz ((K66.part2 dim m x d i s j).getD g 0) := by
  have := (q.part2 h j).mem (by have := q.d0; omega) g
  rw [Nat.mul_comm D] at this
  exact this.sz3 (p600 (by decide)) (p600 (by decide)) q.dB q.nB
theorem Hd.szx {dim : Dim} {m d D N : Nat} {x : List Rat} (q : Hd dim m d D N x) (s : Nat) : Sz (x.getD s 0) :=
  (q.al.mem q.d0 s).sz (Nat.lt_trans q.dB (Nat.pow_lt_pow_right (by decide) (by decide))) (Nat.lt_trans q.nB (Nat.pow_lt_pow_right (by decide) (by decide)))
section
variable {P : Program} {w : World} {K : PySem.W.Frag} {mg : Str → Option Value} {base : Heap}
theorem ok_behind_by (T : Tx K mg) : FnOk P w K mg base CX0 3 (He.ga K "behind_by") (fdAt K (He.ga K "behind_by")) ["dim", "mark", "hold", "deed"] (sp_behind_by K) := by
  refine FunD.ok T.F_behind_by sc_behind_by (fun vs H Q E h => by obtain ⟨x, y, dim, m, d, D, N, hold, rfl, _⟩ := h; rfl) (fun cdv A outer s H vs Q E hr h => ⟨_, PSs.nox (pss_cons (ps_set (i := 4) sc_behind_by.nd rfl (by first | exact Or.inl rfl | exact Or.inr rfl) (pe_call (ok_noughts T) (hr.mono (by decide)) (by rfl) T.m_noughts T.F_noughts.kp (b_noughts T) .nil pass0 (pa_cons (pe_callB (kc_len K) (by rfl) T.z_len bt_len (pa_cons (pe_ix (ki_tup K) (pv 0) pe_int (fun _ _ => rfl)) pa_nil)) pa_nil)))
    (pss_cons (ps_for PassesOwn.never rfl (kp_sq K false (pe_call (ok_stands_of T) (hr.mono (by decide)) (by rfl) T.m_stands_of T.F_stands_of.kp (b_stands_of T) .nil pass0 (pa_cons (pv 0) (pa_cons (pv 1) pa_nil)))) (pg_name (i := 5) sc_behind_by.nd rfl (by first | exact Or.inl rfl | exact Or.inr rfl) (Or.inl rfl)) (pss_one (ps_for PassesOwn.never rfl (kp_sq K true (pe_ix (ki_tup K) (pe_ix (ki_tup K) (pe_ix (ki_tup K) (pe_ix (ki_tup K) (pe_ix (ki_tup K) (pv 0) pe_int (fun _ _ => rfl)) pe_int (fun _ _ => rfl)) (pv 5) (fun _ _ => rfl)) (pv 3) (fun _ _ => rfl)) pe_int (fun _ _ => rfl))) (kg_tup K (n := 2) rfl (pgs_cons (pg_name (i := 6) sc_behind_by.nd rfl (by first | exact Or.inl rfl | exact Or.inr rfl) (Or.inl rfl)) (pgs_cons (pg_name (i := 7) sc_behind_by.nd rfl (by first | exact Or.inl rfl | exact Or.inr rfl) (Or.inl rfl)) pgs_nil))) (pss_cons (ps_set (i := 8) sc_behind_by.nd rfl (by first | exact Or.inl rfl | exact Or.inr rfl) (pe_call (ok_plus T) (hr.mono (by decide)) (by rfl) T.m_plus T.F_plus.kp (b_plus T) .nil pass0 (pa_cons (pe_ix (ki_tup K) (pv 4) (pv 6) (fun _ _ => rfl)) (pa_cons (pe_call (ok_times T) (hr.mono (by decide)) (by rfl) T.m_times T.F_times.kp (b_times T) .nil pass0 (pa_cons (pe_ix (ki_tup K) (pv 2) (pv 5) (fun _ _ => rfl)) (pa_cons (pv 7) pa_nil))) pa_nil))))
    (pss_one (ps_set (i := 4) sc_behind_by.nd rfl (by first | exact Or.inl rfl | exact Or.inr rfl) (pe_op (ko_cat K) (pe_op (ko_cat K) (pe_slice (ks_tup K) (pv 4) po_none (po_some (pv 6))) (pe_tup (pa_cons (pv 8) pa_nil))) (pe_slice (ks_tup K) (pv 4) (po_some (pe_op op_add (pv 6) pe_int)) po_none))))))))
    (pss_one (ps_ret (pe_call (ok_holds_by T) (hr.mono (by decide)) (by rfl) T.m_holds_by T.F_holds_by.kp (b_holds_by T) .nil pass0 (pa_cons (pv 0) (pa_cons (pv 4) pa_nil))))))), ?_⟩)
  obtain ⟨x, y, dim, m, d, D, N, hold, rfl, hx, hy, q, k⟩ := h
  obtain ⟨a, x1, x2, rfl, ta, h1, b, o, us, rfl, hb, oc, od, lb⟩ := id hx
  obtain ⟨c, y1, y2, y3, rfl, tc, q1, q2, q3⟩ := is_house h1
  obtain ⟨e0, ss, rfl, td, ld⟩ := is_list q3
  obtain ⟨f0, zs, rfl, tf, lf⟩ := is_list hy
  have e1 := isl_len lb
  have n8 := q.n8
  have n1 := q.dk.ho.n0
  have ln := q.dk.ln
  walk_at "g"
  refine x_lenT (TupA.frz hb) ?_
  walk_at "g"
  refine ⟨us.length, rfl, by omega, by omega, fun v0 H1 s1 hv0 => ?_⟩
  rw [e1] at hv0
  walk_at "g"
  refine ⟨_, dim, m, rfl, hx.mono (kp_same s1), by omega, fun sa us2 H2 s2 hsa ls => ?_⟩
  have e2 := isl_len ls
  have sL : SqX K false H2 sa us2 := SqL.of hsa
  walk_at "g"
  refine ⟨sa, rfl, ⟨us2, sL⟩, for_it (walk_s false) (fun i σ' H' => ∃ (u : V) (y5 y6 y7 y8 : Option V), σ' = [some (.ref a), some (.int m), some (.ref f0), some (.int d), some u, y5, y6, y7, y8] ∧ Same H2 H' ∧ Is K H' u (part1 dim m hold d i)) ⟨_, none, none, none, none, rfl, Same.refl _, Tp.mono (kp_same s2) hv0⟩ (fun i σ' H' _ ⟨u, y5, y6, y7, y8, _, e, _⟩ => sqx_same e sL) ?_ ?_⟩
  · rintro i z σ' H3 H4 hi ⟨u, y5, y6, y7, y8, rfl, e3, hu⟩ ⟨rfl, g1⟩
    obtain ⟨s, gs, hs⟩ := isl_get ls g1
    have ms := standsOf_mem.mp (List.mem_of_getElem? gs)
    obtain ⟨ls1, ds, d1, d2, d3, d4⟩ := q.deed ms
    cases is_nat hs
    have e03 := (s1.trans s2).trans e3
    have k3 := kp_same e03
    have ta3 := ta.mono k3
    have tc3 := tc.mono k3
    refine x_name ?_
    walk_at "g"
    refine x_atT (td.mono k3) (TpAll.mono k3 ld) d1 fun u1 hu1 => ?_
    walk_at "g"
    refine x_at hu1 d3 fun u2 hu2 => ?_
    obtain ⟨g, w1, w2, rfl, tg, hw1, hw2⟩ := is_deedv hu2
    obtain ⟨r, cs, rfl, tr, lr⟩ := is_list hw1
    have e4 := isl_len lr
    walk_at "g"
    refine ⟨r, rfl, ⟨cs, tr.sqx⟩, for_it (walk_s true) (fun j σ' H' => ∃ (u : V) (y6 y7 y8 : Option V), σ' = [some (.ref a), some (.int m), some (.ref f0), some (.int d), some u, some (.int s), y6, y7, y8] ∧ Same H4 H' ∧ Is K H' u (part2 dim m hold d i s j)) ⟨_, _, _, _, rfl, Same.refl _, hu⟩ (fun i σ' H' _ ⟨u, y6, y7, y8, _, e, _⟩ => sqx_same e tr.sqx) ?_ ?_⟩
    · rintro j z2 σ' H5 H6 hj ⟨u5, y6, y7, y8, rfl, e5, hu5⟩ ⟨rfl, g2⟩
      obtain ⟨cc, gc, hc⟩ := isl_get lr g2
      obtain ⟨h5, c1, c2, rfl, tc5, f1, f2⟩ := is_pair hc
      have mc := List.mem_of_getElem? gc
      have cl := ((q.dk.ho.st ds d2).d _ d4).c.lt cc mc
      have cz := q.hz.ch ds d2 _ d4 cc mc
      cases is_nat f1
      obtain ⟨v5, vs5, rfl, tv5, lv5⟩ := is_list hu5
      have pl := part2_len dim m hold d i s j
      have vl := isl_len lv5
      have gl : cc.1 < (part2 dim m hold d i s j).length := by rw [pl]; omega
      have k5 := kp_same e5
      have k05 := kp_same (e03.trans e5)
      refine x_gpair (tc5.mono k5) ?_
      walk_at "g"
      refine x_atT tv5 lv5 (getD_at gl) fun r1 hr1 => ?_
      walk_at "g"
      refine x_atT (tf.mono k05) (TpAll.mono k05 lf) (getD_at (by rw [q.ln]; exact ls1)) fun r2 hr2 => ?_
      walk_at "g"
      refine ⟨_, _, _, _, rfl, hr2, Tp.mono k5 f2, q.szx s, cz.small (p600 (by decide)) (p600 (by decide)), fun r3 H7 e7 hr3 => ?_⟩
      walk_at "g"
      have sp : Sz (hold.getD s 0 * cc.2) := by
        have := (q.al.mem q.d0 s).mul cz
        rw [Nat.mul_comm D, Nat.mul_comm N] at this
        exact this.sz3 (p600 (by decide)) (p600 (by decide)) q.dB q.nB
      refine ⟨_, _, _, _, rfl, Tp.mono (kp_same e7) hr1, hr3, q.szp gs j cc.1, sp, fun r4 H8 e8 hr4 => ?_⟩
      have e78 := e7.trans e8
      walk_at "g"
      refine x_cutT (tv5.mono (kp_same e78)) fun p1 H9 e9 tp1 => ?_
      rw [cut_hi] at tp1
      walk_at "g"
      refine ⟨by show 1 ≤ sizeLine; decide, fun p2 hp2 => ?_⟩
      have e10 := e9.trans (same_new (o := .tup [r4]) hp2)
      walk_at "g"
      refine x_catT (tp1.mono (kp_same (same_new hp2))) (.of upd_same) (by rw [List.length_take]; show _ + 1 ≤ _; omega) fun p3 H11 e11 tp3 => ?_
      walk_at "g"
      refine x_cutT (tv5.mono (kp_same ((e78.trans e10).trans e11))) fun p4 H12 e12 tp4 => ?_
      rw [show (cc.1 : Int) + 1 = ((cc.1 + 1 : Nat) : Int) by omega, cut_lo _ _ (by omega)] at tp4
      walk_at "g"
      refine x_catT (tp3.mono (kp_same e12)) tp4 (by rw [List.length_append, List.length_take, List.length_drop]; show _ + 1 + _ ≤ _; omega) fun p5 H13 e13 tp5 => ?_
      walk_at "g"
      have ef := (e78.trans e10).trans (e11.trans (e12.trans e13))
      refine ⟨_, _, _, _, rfl, e5.trans ef, is_list_mk tp5 ?_⟩
      rw [part2_next gc]
      exact put_isl (TpAll.mono (kp_same ef) lv5) gl (Tp.mono (kp_same (e10.trans (e11.trans (e12.trans e13)))) hr4)
    · rintro σ' H5 ⟨u5, y6, y7, y8, rfl, e5, hu5⟩
      refine ⟨_, _, _, _, _, rfl, e3.trans e5, ?_⟩
      rw [e4, part1_next gs] at hu5
      exact hu5
  · rintro σ' H3 ⟨u, y5, y6, y7, y8, rfl, e3, hu⟩
    have e03 := (s1.trans s2).trans e3
    rw [e2] at hu
    have hu2 : Is K H3 u (behindL dim m hold d) := by
      have e : part1 dim m hold d (standsOf dim.2 m).length = behindL dim m hold d := by
        unfold part1 behindL
        rw [List.take_length]
      rw [e] at hu
      exact hu
    walk_at "g"
    refine ⟨_, u, dim, _, rfl, hx.mono (kp_same e03), hu2, by rw [behindL_len]; omega, q.dk.ne, Nat.le_trans q.dk.m3 (by decide), fun v H4 e4 hv => k v H4 (e03.trans e4) hv⟩
theorem ok_gains_from (T : Tx K mg) : FnOk P w K mg base CX0 5 (He.ga K "gains_from") (fdAt K (He.ga K "gains_from")) ["dim", "weights", "mark", "hold", "deed"] (sp_gains_from K) := by
  refine FunD.ok T.F_gains_from sc_gains_from (fun vs H Q E h => by obtain ⟨x, z, y, dim, ws, m, d, D, N, hold, rfl, _⟩ := h; rfl) (fun cdv A outer s H vs Q E hr h => ⟨_, PSs.nox (pss_cons (ps_set (i := 5) sc_gains_from.nd rfl (by first | exact Or.inl rfl | exact Or.inr rfl) (pe_ix (ki_tup K) (pv 0) pe_int (fun _ _ => rfl)))
    (pss_one (ps_ret (pe_call (ok_total T) (hr.mono (by decide)) (by rfl) T.m_total T.F_total.kp (b_total T) .nil pass0 (pa_cons (pe_lc (own := [("stand", 6)]) rfl sc_gains_from.nd (kp_sq K false (pe_call (ok_stands_of T) (hr.mono (by decide)) (by rfl) T.m_stands_of T.F_stands_of.kp (b_stands_of T) .nil pass0 (pa_cons (pv 0) (pa_cons (pv 2) pa_nil)))) (blkOk_by (by kernel_rfl)) (fun _ _ _ _ _ => (pg_name (i := 6) sc_gains_from.nd rfl (Or.inl rfl) (Or.inr rfl))) (fun _ _ _ _ _ => pts_nil) (fun _ _ _ _ _ => (pe_call (ok_times T) (hr.mono (by decide)) (by rfl) T.m_times T.F_times.kp (b_times T) .nil pass0 (pa_cons (pe_ix (ki_tup K) (pv 3) (pv 6) (fun _ _ => rfl)) (pa_cons (pe_call (ok_dot T) (hr.mono (by decide)) (by rfl) T.m_dot T.F_dot.kp (b_dot T) .nil pass0 (pa_cons (pv 1) (pa_cons (pe_ix (ki_tup K) (pe_ix (ki_tup K) (pe_ix (ki_tup K) (pe_ix (ki_tup K) (pv 5) pe_int (fun _ _ => rfl)) (pv 6) (fun _ _ => rfl)) (pv 4) (fun _ _ => rfl)) pe_int (fun _ _ => rfl)) pa_nil))) pa_nil))))) pa_nil))))), ?_⟩)
  obtain ⟨x, z, y, dim, ws, m, d, D, N, hold, rfl, hx, hw, hy, q, wz, w4, k⟩ := h
  obtain ⟨a, x1, x2, rfl, ta, h1, b, o, us, rfl, hb, oc, od, lb⟩ := id hx
  obtain ⟨c, y1, y2, y3, rfl, tc, q1, q2, q3⟩ := is_house h1
  obtain ⟨e0, ss, rfl, td, ld⟩ := is_list q3
  obtain ⟨f0, zs, rfl, tf, lf⟩ := is_list hy
  have n8 := q.n8
  walk_at "g"
  refine ⟨_, dim, m, rfl, hx, by omega, fun sa us2 H2 s2 hsa ls => ?_⟩
  have e2 := isl_len ls
  have l2 := standsOf_len dim.2 m
  have sL : SqX K false H2 sa us2 := SqL.of hsa
  walk_at "g"
  refine ⟨sa, rfl, ⟨us2, sL⟩, x_lcL (K := K) ((standsOf dim.2 m).map fun s => hold.getD s 0 * dotR ws (deedAt dim.1.st s d).2) (walk_s false) (by rw [List.length_map, e2]) (by omega) (fun H2 e => sqx_same e sL) yat_same ?_ ?_⟩
  · rintro i x y H4 H5 R N gy e ⟨rfl, g1⟩ done
    obtain ⟨s, gs, hs⟩ := isl_get ls g1
    rw [List.getElem?_map, gs] at gy
    cases gy
    have ms := standsOf_mem.mp (List.mem_of_getElem? gs)
    obtain ⟨ls1, ds, d1, d2, d3, d4⟩ := q.deed ms
    cases is_nat hs
    have e4 := s2.trans e
    have k4 := kp_same e4
    have tc4 := tc.mono k4
    refine x_name ⟨rfl, ?_⟩
    walk_at "g"
    refine x_atT (tf.mono k4) (TpAll.mono k4 lf) (getD_at (by rw [q.ln]; exact ls1)) fun r2 hr2 => ?_
    walk_at "g"
    refine x_atT (td.mono k4) (TpAll.mono k4 ld) d1 fun u1 hu1 => ?_
    walk_at "g"
    refine x_at hu1 d3 fun u2 hu2 => ?_
    obtain ⟨g, w1, w2, rfl, tg, hw1, hw2⟩ := is_deedv hu2
    walk_at "g"
    refine ⟨_, _, _, _, rfl, Tp.mono k4 hw, hw2, fun q hq => wsz (wz q hq), fun z hz => wsz (q.hz.g ds d2 _ d4 z hz), Nat.le_trans w4 (by decide), dot_so wz (q.hz.g ds d2 _ d4) w4, fun r4 H4 e5 hr4 => ?_⟩
    walk_at "g"
    exact ⟨_, _, _, _, rfl, Tp.mono (kp_same e5) hr2, hr4, q.szx s, (dot_bd wz (q.hz.g ds d2 _ d4) w4).small (p600 (by decide)) (Nat.pow_le_pow_right (by decide) (by decide)), fun r6 H6 e6 hr6 => done _ _ (e5.trans e6) hr6⟩
  · intro L H6 zs3 nL e6 hL il
    walk_at "g"
    refine ⟨false, L, zs3, _, rfl, SqL.of hL, il, ?_, fun v H7 e7 hv => k v H7 ((s2.trans e6).trans e7) hv⟩
    have ga := gprod_all wz w4 q.hz q.dk.ev q.d0 q.al q.hd
    rw [Nat.mul_comm D, Nat.mul_comm N] at ga
    refine ⟨_, _, ⟨by have := q.d0; omega, small3000 (p600 (by decide)) q.dB⟩, ⟨?_, small3000 (Nat.pow_le_pow_right (by decide) (by decide)) q.nB⟩, ga⟩
    rw [List.length_map, ← Nat.mul_assoc]
    refine small3000 ?_ q.nB
    exact Nat.le_trans (Nat.mul_le_mul_right _ (show (standsOf dim.2 m).length ≤ 2 ^ 3 by omega)) (by rw [← Nat.pow_add]; exact Nat.pow_le_pow_right (by decide) (by decide))
end
end K66

/-! W8: the best by sight, the deed trees, the top (own work) -/
namespace K66
open PySem PySem.Spec PyProof.Rows L2
local macro_rules | `(tactic| walk_at "kp") => `(tactic| first
  | exact Kp.refl _
  | assumption
  | (refine Kp.trans (by assumption) ?_; walk_at "kp")
  | (refine Kp.trans (kp_same (by assumption)) ?_; walk_at "kp"))
local macro_rules | `(tactic| walk_at "is") => `(tactic| first
  | assumption
  | (refine Tp.mono ?_ (by assumption); walk_at "kp"))
local macro_rules | `(tactic| walk_at "x") => `(tactic| with_reducible first
  | refine x_seq ?_ | refine x_ret ?_ | refine x_asg ?_ | refine x_ifs ?_ | refine x_drop ?_ | refine x_next ?_ | refine x_call ?_ | refine x_cb ?_ | refine x_cons ?_ | refine x_nil ?_
  | refine x_op ?_ | refine x_un ?_ | refine x_c ?_ | refine x_i0 ?_ | refine x_u ?_ | refine x_eqI ?_ | refine x_neI ?_ | refine x_test ?_ | refine x_tb ?_ | refine x_bl ?_ | refine x_not ?_
  | refine x_and ?_ | refine x_or ?_ | refine x_andV ?_ | refine x_orV ?_ | refine x_notV ?_ | refine x_if ?_ | refine x_tup ?_ | refine x_lst ?_ | refine x_name ?_ | refine x_gcd ?_ | refine x_for ?_ | refine x_par ?_ | refine x_par3 ?_ | refine x_two ?_ | refine x_three ?_ | refine x_lcd ?_ | refine x_yes ?_ | refine x_isq ?_ | refine x_izip ?_ | refine x_ienum ?_ | refine x_irng ?_ | refine x_kt ?_ | refine x_isiI ?_ | refine x_isiB ?_ | refine x_chain ?_ | refine x_sl ?_ | refine x_part ?_ | refine x_nopart ?_ | refine x_isint ?_ | refine x_bm ?_ | refine x_tix ?_ )
local macro_rules | `(tactic| walk_at "v") => `(tactic| ((with_reducible refine x_var (v := ?kv) ?k1 ?_); (case k1 => exact rfl)))
local macro_rules | `(tactic| walk_at "n") => `(tactic| first
  | ((with_reducible refine x_num (q := ?kv) ?k1 ?_); (case k1 => walk_at "is"))
  | ((with_reducible refine x_den (q := ?kv) ?k1 ?_); (case k1 => walk_at "is")))
local macro_rules | `(tactic| walk_at "m") => `(tactic| ((with_reducible refine x_i ?k1 ?_); (case k1 => first | exact mw_nd (by assumption) (by assumption) | exact mw_nn (by assumption) (by assumption) | exact mw_dd (by assumption) (by assumption))))
local macro_rules | `(tactic| walk_at "tu") => `(tactic| first
  | assumption
  | (refine TupA.mono ?_ (by assumption); walk_at "kp"))
local macro_rules | `(tactic| walk_at "i") => `(tactic| first
  | ((with_reducible refine x_ix0 (us := ?ku) (v := ?kv) ?k1 ?k2 ?_); (case k1 => walk_at "tu"); (case k2 => exact rfl))
  | ((with_reducible refine x_ix1 (us := ?ku) (v := ?kv) ?k1 ?k2 ?_); (case k1 => walk_at "tu"); (case k2 => exact rfl))
  | ((with_reducible refine x_ix2 (us := ?ku) (v := ?kv) ?k1 ?k2 ?_); (case k1 => walk_at "tu"); (case k2 => exact rfl)))
local macro_rules | `(tactic| walk_at "ht") => `(tactic| refine x_t (by first | rfl | (simp; done) | (simp; omega)) ?_)
local macro_rules | `(tactic| walk_at "hf") => `(tactic| refine x_f (by first | rfl | (simp; done) | (simp; omega)) ?_)
local macro_rules | `(tactic| walk_at "g") => `(tactic| repeat (first | walk_at "x" | walk_at "v" | walk_at "n" | walk_at "i" | walk_at "m" | ((with_reducible refine x_f ?k1 ?_); (case k1 => exact rfl)) | ((with_reducible refine x_t ?k1 ?_); (case k1 => exact rfl))))

instance : Enc PyData := ⟨id⟩
def PairT (K : PySem.W.Frag) (H : Hp) (v : V) (r : Rat) : Prop := ∃ a x y d, v = .ref a ∧ TupA K H a [x, y] ∧ Is K H x r ∧ Tp K H y d
theorem PairT.mono {K : PySem.W.Frag} {H H' : Hp} {v : V} {r : Rat} (k : Kp H H') (h : PairT K H v r) : PairT K H' v r := by
  obtain ⟨a, x, y, d, rfl, t, h1, h2⟩ := h
  exact ⟨a, x, y, d, rfl, t.mono k, Tp.mono k h1, Tp.mono k h2⟩
def AnyT (K : PySem.W.Frag) (H : Hp) (v : V) : Prop := ∃ d, Tp K H v d
theorem AnyT.mono {K : PySem.W.Frag} {H H' : Hp} {v : V} (k : Kp H H') (h : AnyT K H v) : AnyT K H' v := by
  obtain ⟨d, h⟩ := h
  exact ⟨d, Tp.mono k h⟩
theorem any_all {K : PySem.W.Frag} {H : Hp} : ∀ {vs : List V}, (∀ (i : Nat) v, vs[i]? = some v → AnyT K H v) → ∃ ds, TpAll K H vs ds
  | [], _ => ⟨[], .nil⟩
  | v :: vs, h => by
    obtain ⟨d, hd⟩ := h 0 v rfl
    obtain ⟨ds, hs⟩ := any_all (vs := vs) fun i u e => h (i + 1) u (by simpa using e)
    exact ⟨d :: ds, .cons hd hs⟩
theorem x_repT {K : PySem.W.Frag} {H : Hp} {Q : VK} {p : Addr} {u : V} {n : Nat} (t : TupA K H p [u]) (h1 : 1 ≤ n) (h2 : n ≤ 1000) (k : ∀ c H', Same H H' → TupA K H' c (List.replicate n u) → Q (.ref c) H') : rRepA K (.ref p) (.int n) H Q := by
  refine ⟨p, n, _, rfl, rfl, t, (fun z => by cases z), ⟨by omega, by omega, by show 1 ≤ 1000; decide⟩, fun e => ?_, fun _ q hq => ?_⟩
  · have e1 : n = 1 := by omega
    subst e1
    exact k _ _ (Same.refl _) t
  · refine k _ _ (same_new hq) (.of ?_)
    rw [upd_same, Int.toNat_natCast, flat1 u n]
def spt (K : PySem.W.Frag) (n : Nat) : Sp := fun vs H Q _ => ∃ (x : V) (dim : Dim), vs = [x, .int n] ∧ IsDim K H x dim ∧ dim.2 ≠ [] ∧ mmany dim.2 ≤ 8 ∧ ∀ v H', Same H H' → AnyT K H' v → Q v H'
def sp_some_tree (K : PySem.W.Frag) : Sp := fun vs H Q E => ∃ n : Nat, n ≤ 4 ∧ spt K n vs H Q E
structure Bst (dim : Dim) (ws : List Rat) (n D N : Nat) (x : List Rat) : Prop where
  dk : DimOk dim
  hz : HSz dim.1
  wz : All 84 (2 ^ 71) ws
  w4 : ws.length ≤ 4
  ln : x.length = dim.2.length
  d0 : 0 < D
  dB : D * EE n < 2 ^ 2300
  nB : N * GG n < 2 ^ 2300
  al : All D N x
  n4 : n ≤ 4
theorem Bst.hd {dim : Dim} {ws : List Rat} {n D N : Nat} {x : List Rat} (b : Bst dim ws n D N x) {m d : Nat} (h : d < deedsN dim m) : Hd dim m d D N x :=
  ⟨b.dk, b.hz, b.ln, b.d0, Nat.lt_of_le_of_lt (Nat.le_mul_of_pos_right _ (ee_pos n)) b.dB, Nat.lt_of_le_of_lt (Nat.le_mul_of_pos_right _ (gg_pos n)) b.nB, b.al, h⟩
theorem Bst.n8 {dim : Dim} {ws : List Rat} {n D N : Nat} {x : List Rat} (b : Bst dim ws n D N x) : dim.2.length ≤ 8 := by
  rw [b.dk.ln]; exact b.dk.ho.n1
theorem hold_len {marks : List Nat} {m : Nat} {x : List Rat} (h : x.length = marks.length) : (holdAt marks m x).length = marks.length := by
  unfold holdAt
  rw [List.length_zipWith, h, Nat.min_self]
theorem Bst.next {dim : Dim} {ws : List Rat} {n D N : Nat} {x : List Rat} (b : Bst dim ws (n + 1) D N x) {m d : Nat} (h : d < deedsN dim m) (j : Nat) : Bst dim ws n (D * 2520) (161280 * N) (holdAt dim.2 j (behindL dim m x d)) where
  dk := b.dk
  hz := b.hz
  wz := b.wz
  w4 := b.w4
  ln := hold_len (behindL_len ..)
  d0 := by have := b.d0; omega
  dB := by
    refine Nat.lt_of_le_of_lt ?_ b.dB
    rw [ee_succ, Nat.mul_assoc]
    refine Nat.mul_le_mul_left _ ?_
    have := ee_pos n
    omega
  nB := by
    refine Nat.lt_of_le_of_lt ?_ b.nB
    rw [gg_succ, Nat.mul_comm 161280 N, Nat.mul_assoc]
    refine Nat.mul_le_mul_left _ ?_
    omega
  al := hold_all (by have := b.d0; omega) (behindL_all b.hz b.dk.ev b.n8 b.d0 b.al h)
  n4 := by have := b.n4; omega
theorem Bst.bd {dim : Dim} {ws : List Rat} {n D N : Nat} {x : List Rat} (b : Bst dim ws n D N x) {m : Nat} (h : m < mmany dim.2) : Bd (D * EE n) (N * GG n) (bestR ws dim n m x) :=
  best_bd b.wz b.w4 b.hz b.dk.ev b.n8 (Nat.le_trans b.dk.m3 (by decide)) (fun m hm => (b.dk.pos (b.dk.all m hm)).1) n D N m x b.d0 h b.al
theorem Bst.ahead {dim : Dim} {ws : List Rat} {n D N : Nat} {x : List Rat} (b : Bst dim ws (n + 1) D N x) {m d : Nat} (h : d < deedsN dim m) : All (D * 2520 * EE n) (161280 * N * GG n) (aheadL ws dim n (behindL dim m x d)) := fun q hq => by
  obtain ⟨j, hj, rfl⟩ := List.mem_map.mp hq
  exact (b.next h j).bd (List.mem_range.mp hj)
theorem lt3000 {N : Nat} (h : N < 2 ^ 2300) : N < 2 ^ 3000 := Nat.lt_trans h (Nat.pow_lt_pow_right (by decide) (by decide))
theorem ahead_len (ws : List Rat) (dim : Dim) (n : Nat) (x : List Rat) : (aheadL ws dim n x).length = mmany dim.2 := by
  unfold aheadL
  rw [List.length_map, List.length_range]
theorem Bst.so {dim : Dim} {ws : List Rat} {n D N : Nat} {x : List Rat} (b : Bst dim ws (n + 1) D N x) {m d : Nat} (h : d < deedsN dim m) : SumOk (aheadL ws dim n (behindL dim m x d)) := by
  have c := b.next h 0
  refine ⟨_, _, ⟨Nat.mul_pos c.d0 (ee_pos n), lt3000 c.dB⟩, ⟨?_, lt3000 c.nB⟩, b.ahead h⟩
  rw [ahead_len]
  exact small3000 (p600 (Nat.le_trans b.dk.m3 (by decide))) c.nB
theorem Bst.sum {dim : Dim} {ws : List Rat} {n D N : Nat} {x : List Rat} (b : Bst dim ws (n + 1) D N x) {m d : Nat} (h : d < deedsN dim m) : Bd (D * 2520 * EE n) (8 * (161280 * N * GG n)) (rsum (aheadL ws dim n (behindL dim m x d))) := by
  refine (bd_rsum (Nat.mul_pos (by have := b.d0; omega) (ee_pos n)) _ (b.ahead h)).mono ?_
  rw [ahead_len]
  exact Nat.mul_le_mul_right _ (Nat.le_trans b.dk.m3 (by decide))
theorem one_mul_sz {D N k : Nat} {q : Rat} (h : Bd D (k * N) q) (hk : k ≤ 2 ^ 600) (hD : D < 2 ^ 2300) (hN : N < 2 ^ 2300) : Sz q := h.sz (lt3000 hD) (small3000 hk hN)
def spb (K : PySem.W.Frag) (n : Nat) : Sp := fun vs H Q _ => ∃ (x y z : V) (dim : Dim) (ws : List Rat) (m D N : Nat) (hold : List Rat), vs = [x, y, .int m, .int n, z] ∧ IsDim K H x dim ∧ Is K H y ws ∧ Is K H z hold ∧ Bst dim ws n D N hold ∧ m < mmany dim.2 ∧
  ∀ v H', Same H H' → PairT K H' v (bestR ws dim n m hold) → Q v H'
def sp_best_by (K : PySem.W.Frag) : Sp := fun vs H Q E => ∃ n : Nat, n ≤ 4 ∧ spb K n vs H Q E
section
variable {P : Program} {w : World} {K : PySem.W.Frag} {mg : Str → Option Value} {base : Heap}
theorem fn_never {k : Nat} {f : Addr} {fd : FuncData} {ps : List Str} : FnOk P w K mg base CX0 k f fd ps (fun _ _ _ _ => False) := ⟨fun _ _ _ _ h => h.elim, fun _ _ _ _ _ _ _ _ _ _ _ _ _ h => h.elim⟩
theorem tree_step (T : Tx K mg) (n : Nat) (sp : Sp) (G : FnOk P w K mg base CX0 (n + 1) (He.ga K "some_tree") (fdAt K (He.ga K "some_tree")) ["dim", "many"] sp) (hg : ∀ j, n = j + 1 → ∀ vs H Q E, spt K j vs H Q E → sp vs H Q E) :
    FnOk P w K mg base CX0 (n + 2) (He.ga K "some_tree") (fdAt K (He.ga K "some_tree")) ["dim", "many"] (spt K n) := by
  refine FunD.ok T.F_some_tree sc_some_tree (fun vs H Q E h => by obtain ⟨x, dim, rfl, _⟩ := h; rfl) (fun cdv A outer s H vs Q E hr h => ?_)
  have hrG := hr
  obtain ⟨x, dim, rfl, hx, ne, m8, k⟩ := h
  refine ⟨_, PSs.nox (pss_one (ps_ret (pe_ifExp (pt_cmpR op_gt (pv 1) pe_int (nomark _)) (pe_tup (pa_cons pe_int (pa_cons (pe_op (ko_rep K) (pe_tup (pa_cons (pe_call G hrG (by rfl) T.m_some_tree T.F_some_tree.kp (b_some_tree T) .nil pass0 (pa_cons (pv 0) (pa_cons (pe_op op_sub (pv 1) pe_int) pa_nil))) pa_nil)) (pe_call (ok_marks_in T) (hr.mono (by omega)) (by rfl) T.m_marks_in T.F_marks_in.kp (b_marks_in T) .nil pass0 (pa_cons (pv 0) pa_nil))) pa_nil))) (pe_tup pa_nil)))), ?_⟩
  walk_at "g"
  cases n with
  | zero =>
    refine x_f rfl ?_
    walk_at "g"
    exact ⟨by show 0 ≤ sizeLine; decide, fun p hp => k _ _ (same_new hp) ⟨.tuple [], .tup (.of upd_same) .nil⟩⟩
  | succ j =>
    refine x_t (decide_eq_true (by omega)) ?_
    walk_at "g"
    refine hg j rfl _ _ _ _ ⟨x, dim, by rw [show ((j + 1 : Nat) : Int) - 1 = (j : Nat) by omega]; rfl, hx, ne, m8, fun v H1 e1 hv => ?_⟩
    walk_at "g"
    refine ⟨by show 1 ≤ sizeLine; decide, fun p hp => ?_⟩
    have e2 := e1.trans (same_new (o := .tup [v]) hp)
    walk_at "g"
    refine ⟨x, dim, rfl, hx.mono (kp_same e2), ne, ?_⟩
    refine x_repT (.of upd_same) (by show 1 ≤ mtop dim.2 + 1; omega) (by omega) fun c H2 e3 tc => ?_
    walk_at "g"
    refine ⟨by show 2 ≤ sizeLine; decide, fun p2 hp2 => ?_⟩
    have e4 := e3.trans (same_new (o := .tup [.int 0, .ref c]) hp2)
    obtain ⟨d, hd⟩ := hv.mono (kp_same ((same_new (o := .tup [v]) hp).trans e4))
    refine k _ _ (e2.trans e4) ⟨.tuple [.int 0, .tuple (List.replicate (mmany dim.2) d)], .tup (.of upd_same) (.cons (.int 0) (.cons (.tup (tc.mono (kp_same (same_new hp2))) ?_) .nil))⟩
    exact TpAll.rep hd _
theorem tree_n (T : Tx K mg) : ∀ n, FnOk P w K mg base CX0 (n + 2) (He.ga K "some_tree") (fdAt K (He.ga K "some_tree")) ["dim", "many"] (spt K n)
  | 0 => tree_step T 0 _ fn_never fun j e => by omega
  | n + 1 => tree_step T (n + 1) _ (tree_n T n) fun j e vs H Q E h => by
    have : j = n := by omega
    subst this
    exact h
theorem ok_some_tree (T : Tx K mg) : FnOk P w K mg base CX0 7 (He.ga K "some_tree") (fdAt K (He.ga K "some_tree")) ["dim", "many"] (sp_some_tree K) :=
  ⟨fun vs H Q E h => by obtain ⟨n, _, h⟩ := h; exact (tree_n (P := P) (w := w) (base := base) T n).len vs H Q E h,
   fun A outer s H args us vs Q E hr he hb hv h => by
    obtain ⟨n, hn, h⟩ := h
    exact (tree_n T n).run A outer s H args us vs Q E (hr.mono (by omega)) he hb hv h⟩
theorem best_step (T : Tx K mg) (n : Nat) (sp : Sp) (G : FnOk P w K mg base CX0 (n + 8) (He.ga K "best_by") (fdAt K (He.ga K "best_by")) ["dim", "weights", "mark", "many", "hold"] sp) (hg : ∀ j, n = j + 1 → ∀ vs H Q E, spb K j vs H Q E → sp vs H Q E) :
    FnOk P w K mg base CX0 (n + 9) (He.ga K "best_by") (fdAt K (He.ga K "best_by")) ["dim", "weights", "mark", "many", "hold"] (spb K n) := by
  refine FunD.ok T.F_best_by sc_best_by (fun vs H Q E h => by obtain ⟨x, y, z, dim, ws, m, D, N, hold, rfl, _⟩ := h; rfl) (fun cdv A outer s H vs Q E hr h => ?_)
  have hrG := hr
  obtain ⟨x, y, z, dim, ws, m, D, N, hold, rfl, hx, hy, hz, b, hm, k⟩ := h
  obtain ⟨a, x1, x2, rfl, ta, h1, hmk⟩ := id hx
  obtain ⟨c, y1, y2, y3, rfl, tc, q1, q2, q3⟩ := is_house h1
  obtain ⟨f0, zs, rfl, tf, lf⟩ := is_list hz
  have e1 := isl_len lf
  have n8 := b.n8
  have ln := b.ln
  have m8 : mmany dim.2 ≤ 8 := Nat.le_trans b.dk.m3 (by decide)
  refine ⟨_, PSs.nox (pss_cons (ps_if (PW.pt (pw_or (pt_cmpR op_eq (pv 3) pe_int (nomark _)) (pw_or1 (pt_val (pe_callB (kc_all K rfl) (by rfl) T.z_all bt_all (pa_cons (pe_lc (own := [("each", 12)]) rfl sc_best_by.nd (kp_sq K true (pv 4)) (blkOk_by (by kernel_rfl)) (fun _ _ _ _ _ => (pg_name (i := 12) sc_best_by.nd rfl (Or.inl rfl) (Or.inr rfl))) (fun _ _ _ _ _ => pts_nil) (fun _ _ _ _ _ => (pe_cmpR (ko_eqD K hr.units) (pv 12) (pe_glob (v := .ref (He.ga K "ZERO")) (by rfl) T.m_ZERO rfl) (nomark _)))) pa_nil)))))) (pss_one (ps_ret (pe_tup (pa_cons (pe_glob (v := .ref (He.ga K "ZERO")) (by rfl) T.m_ZERO rfl) (pa_cons (pe_call (ok_some_tree T) (hr.mono (by omega)) (by rfl) T.m_some_tree T.F_some_tree.kp (b_some_tree T) .nil pass0 (pa_cons (pv 0) (pa_cons (pv 3) pa_nil))) pa_nil))))) pss_nil)
    (pss_cons (ps_par (i := 5) (j := 6) rfl sc_best_by.nd rfl rfl (by decide) rfl rfl (pa_cons (pe_lst pa_nil) (pa_cons (pe_lst pa_nil) pa_nil)) (by rfl))
    (pss_cons (ps_for PassesOwn.never rfl (pi_range1 rfl T.z_range (pa_cons (pe_call (ok_deeds_of T) (hr.mono (by omega)) (by rfl) T.m_deeds_of T.F_deeds_of.kp (b_deeds_of T) .nil pass0 (pa_cons (pv 0) (pa_cons (pv 2) pa_nil))) pa_nil)) (pg_name (i := 7) sc_best_by.nd rfl (by first | exact Or.inl rfl | exact Or.inr rfl) (Or.inl rfl)) (pss_cons (ps_setLc (i := 8) (own := [("there", 11), ("each", 12)]) rfl sc_best_by.nd rfl rfl (sw_true rfl rfl rfl (by decide +kernel)) (kp_enum K true (by rfl) T.z_enumerate (pa_cons (pe_call (ok_behind_by T) (hr.mono (by omega)) (by rfl) T.m_behind_by T.F_behind_by.kp (b_behind_by T) .nil pass0 (pa_cons (pv 0) (pa_cons (pv 2) (pa_cons (pv 4) (pa_cons (pv 7) pa_nil))))) pa_nil)) (blkOk_by (by kernel_rfl)) (fun _ _ _ _ _ => (kg_tup K (n := 2) rfl (pgs_cons (pg_name (i := 11) sc_best_by.nd rfl (Or.inl rfl) (Or.inr rfl)) (pgs_cons (pg_name (i := 12) sc_best_by.nd rfl (Or.inl rfl) (Or.inr rfl)) pgs_nil)))) (fun _ _ _ _ _ => pts_nil) (fun _ _ _ _ _ => (pe_call G hrG (by rfl) T.m_best_by T.F_best_by.kp (b_best_by T) .nil pass0 (pa_cons (pv 0) (pa_cons (pv 1) (pa_cons (pv 11) (pa_cons (pe_op op_sub (pv 3) pe_int) (pa_cons (pv 12) pa_nil))))))))
    (pss_cons (ps_set (i := 9) sc_best_by.nd rfl (by first | exact Or.inl rfl | exact Or.inr rfl) (pe_call (ok_times T) (hr.mono (by omega)) (by rfl) T.m_times T.F_times.kp (b_times T) .nil pass0 (pa_cons (pe_ix (ki_tup K) (pe_ix (ki_tup K) (pv 0) pe_int (fun _ _ => rfl)) pe_int (fun _ _ => rfl)) (pa_cons (pe_call (ok_total T) (hr.mono (by omega)) (by rfl) T.m_total T.F_total.kp (b_total T) .nil pass0 (pa_cons (pe_lc (own := [("number", 13), ("_", 14)]) rfl sc_best_by.nd (kp_sq K false (pv 8)) (blkOk_by (by kernel_rfl)) (fun _ _ _ _ _ => (kg_tup K (n := 2) rfl (pgs_cons (pg_name (i := 13) sc_best_by.nd rfl (Or.inl rfl) (Or.inr rfl)) (pgs_cons (pg_name (i := 14) sc_best_by.nd rfl (Or.inl rfl) (Or.inr rfl)) pgs_nil)))) (fun _ _ _ _ _ => pts_nil) (fun _ _ _ _ _ => (pv 13))) pa_nil)) pa_nil))))
    (pss_cons (ps_expr (ke_bm K PySem.F.plainAttrs_list PySem.F.slot_list_append PySem.F.type_list_append mt_append (pv 5) (pa_cons (pe_call (ok_plus T) (hr.mono (by omega)) (by rfl) T.m_plus T.F_plus.kp (b_plus T) .nil pass0 (pa_cons (pe_call (ok_gains_from T) (hr.mono (by omega)) (by rfl) T.m_gains_from T.F_gains_from.kp (b_gains_from T) .nil pass0 (pa_cons (pv 0) (pa_cons (pv 1) (pa_cons (pv 2) (pa_cons (pv 4) (pa_cons (pv 7) pa_nil)))))) (pa_cons (pv 9) pa_nil))) pa_nil)))
    (pss_one (ps_expr (ke_bm K PySem.F.plainAttrs_list PySem.F.slot_list_append PySem.F.type_list_append mt_append (pv 6) (pa_cons (pe_tup (pa_cons (pv 7) (pa_cons (pe_callTy (kc_tuple K) (by rfl) T.z_tuple bt_tuple (pa_cons (pe_lc (own := [("_", 14), ("tree", 15)]) rfl sc_best_by.nd (kp_sq K false (pv 8)) (blkOk_by (by kernel_rfl)) (fun _ _ _ _ _ => (kg_tup K (n := 2) rfl (pgs_cons (pg_name (i := 14) sc_best_by.nd rfl (Or.inl rfl) (Or.inr rfl)) (pgs_cons (pg_name (i := 15) sc_best_by.nd rfl (Or.inl rfl) (Or.inr rfl)) pgs_nil)))) (fun _ _ _ _ _ => pts_nil) (fun _ _ _ _ _ => (pv 15))) pa_nil)) pa_nil))) pa_nil))))))))
    (pss_cons (ps_set (i := 10) sc_best_by.nd rfl (by first | exact Or.inl rfl | exact Or.inr rfl) (pe_call (ok_first_best T) (hr.mono (by omega)) (by rfl) T.m_first_best T.F_first_best.kp (b_first_best T) .nil pass0 (pa_cons (pv 5) pa_nil)))
    (pss_one (ps_ret (pe_tup (pa_cons (pe_ix (ki_list K) (pv 5) (pv 10) (fun _ _ => rfl)) (pa_cons (pe_ix (ki_list K) (pv 6) (pv 10) (fun _ _ => rfl)) pa_nil))))))))), ?_⟩
  have n4 := b.n4
  have ret0 : ∀ H1 : Hp, Same H H1 → bestR ws dim n m hold = 0 → ∀ v, AnyT K H1 v → ∀ p, H1 p = none → Q (.ref p) (upd H1 p (.tup [.ref (He.ga K "ZERO"), v])) := fun H1 e0 hb v hv p hp => by
    have s2 := same_new (o := .tup [.ref (He.ga K "ZERO"), v]) hp
    obtain ⟨d, hd⟩ := hv
    refine k _ _ (e0.trans s2) ⟨p, _, v, d, rfl, .of upd_same, ?_, Tp.mono (kp_same s2) hd⟩
    rw [hb]
    exact zero_is T _
  cases n with
  | zero =>
    walk_at "g"
    refine ⟨0, by omega, _, dim, rfl, hx, b.dk.ne, m8, fun v H1 e1 hv => ?_⟩
    walk_at "g"
    exact ⟨by show 2 ≤ sizeLine; decide, fun p hp => ret0 H1 e1 rfl v hv p hp⟩
  | succ j =>
    walk_at "g"
    refine ⟨f0, rfl, ⟨zs, tf.sqx⟩, x_lcL (K := K) (hold.map fun q => decide (q = 0)) (walk_s true) (by rw [List.length_map, e1]) (by omega) (fun H2 e => sqx_same e tf.sqx) yat_same ?_ ?_⟩
    · rintro i x y H2 H3 R N gy e ⟨rfl, g1⟩ done
      obtain ⟨p, gp, hp⟩ := isl_get lf g1
      rw [List.getElem?_map, gp] at gy
      cases gy
      refine x_name ⟨rfl, ?_⟩
      walk_at "g"
      exact x_eqR (Tp.mono (kp_same e) hp) (zero_is T _) (done _ _ (Same.refl _) (.bl _))
    · intro L H2 us2 nL e2 hL il
      walk_at "g"
      refine x_all hL il ?_
      have bs := bestR_succ ws dim j m hold
      have eall : (hold.map fun q => decide (q = 0)).all id = hold.all (fun q => decide (q = 0)) := by rw [List.all_map]; rfl
      rw [eall]
      refine ⟨_, rfl, ?_⟩
      by_cases hall : hold.all (fun q => decide (q = 0)) = true
      · rw [if_pos hall] at bs
        refine x_t hall ?_
        walk_at "g"
        refine ⟨j + 1, by omega, _, dim, rfl, hx.mono (kp_same e2), b.dk.ne, m8, fun v H3 e3 hv => ?_⟩
        walk_at "g"
        exact ⟨by show 2 ≤ sizeLine; decide, fun p hp => ret0 H3 (e2.trans e3) bs v hv p hp⟩
      · rw [if_neg hall] at bs
        refine x_f (by simpa using hall) ?_
        walk_at "g"
        refine ⟨by show 0 ≤ sizeLine; decide, fun wa hwa => ?_⟩
        walk_at "g"
        refine ⟨by show 0 ≤ sizeLine; decide, fun ca hca => ?_⟩
        walk_at "g"
        have nc : ca ≠ wa := fun z => by
          rw [z, upd_same] at hca
          cases hca
        have s3 : Same H2 (upd (upd H2 wa (.lst [])) ca (.lst [])) := (same_new hwa).trans (same_new hca)
        have na : H wa = none := e2.free hwa
        have nb : H ca = none := (e2.trans (same_new (o := .lst []) hwa)).free hca
        have e3 := e2.trans s3
        have mm := b.dk.all m hm
        obtain ⟨dp1, dp4⟩ := b.dk.pos mm
        refine ⟨_, dim, m, rfl, hx.mono (kp_same e3), b.dk, mm, ?_⟩
        walk_at "g"
        refine ⟨_, rfl, by omega, by omega, for_it walk_range (fun i σ' H' => ∃ (y7 y8 y9 : Option V) (us ts : List V), σ' = [some (.ref a), some y, some (.int m), some (.int (j + 1 : Nat)), some (.ref f0), some (.ref wa), some (.ref ca), y7, y8, y9, none, none, none, none, none, none] ∧ Same H H' ∧ H' wa = some (.lst us) ∧ IsL K H' us ((List.range i).map (valueR ws dim j m hold)) ∧ H' ca = some (.lst ts) ∧ ts.length = i ∧ ∀ (n : Nat) v, ts[n]? = some v → AnyT K H' v)
          ⟨none, none, none, [], [], rfl, e3, same_new hca _ _ upd_same, .nil, upd_same, rfl, fun n v z => by simp at z⟩ (fun i σ' H' _ _ => trivial) ?_ ?_⟩
        · rintro i x σ' H4 H5 hi ⟨y7, y8, y9, us, ts, rfl, e4, hw, lw, hc, lc, qc⟩ ⟨rfl, rfl⟩
          have hi2 : i < deedsN dim m := by omega
          have hD := b.hd hi2
          refine x_name ?_
          walk_at "g"
          refine ⟨_, _, dim, m, i, D, N, hold, by simp, hx.mono (kp_same e4), Tp.mono (kp_same e4) hz, hD, fun v H6 e6 hv => ?_⟩
          obtain ⟨g0, gs, rfl, tg, lg⟩ := is_list hv
          have gl := isl_len lg
          have hbl : (holdsBy dim.2 (behindL dim m hold i)).length = mmany dim.2 := by unfold holdsBy; rw [List.length_map, List.length_range]
          have e46 := e4.trans e6
          walk_at "g"
          refine ⟨g0, gs, rfl, tg.sqx, x_lcR (fun i2 H v => PairT K H v (bestR ws dim j i2 (holdAt dim.2 i2 (behindL dim m hold i)))) (fun i H H' v k h => h.mono k) walk_e (by omega) (fun H2 e => sqx_same e tg.sqx) ypair_same ?_ ?_⟩
          · rintro i2 x H7 H8 R N2 hi3 e7 ⟨Tq, u1, u2, rfl, nT, rfl, g1, g2⟩ done
            cases g1
            obtain ⟨l, gq, hq⟩ := isl_get lg g2
            unfold holdsBy at gq
            rw [List.getElem?_map] at gq
            obtain ⟨j2, gj, rfl⟩ := Option.map_eq_some_iff.mp gq
            have ej : i2 = j2 := by
              rw [List.getElem?_eq_some_iff] at gj
              obtain ⟨_, z⟩ := gj
              simpa using z
            subst ej
            have e8 := e7.trans (same_new (o := .tup [.int (i2 : Nat), u2]) nT)
            have e48 := e46.trans e8
            refine x_gpair (.of upd_same) ⟨rfl, ?_⟩
            walk_at "g"
            exact hg j rfl _ _ _ _ ⟨_, _, _, dim, ws, i2, D * 2520, 161280 * N, holdAt dim.2 i2 (behindL dim m hold i), by rw [show ((j + 1 : Nat) : Int) - 1 = (j : Nat) by omega]; rfl, hx.mono (kp_same e48), Tp.mono (kp_same e48) hy, Tp.mono (kp_same e8) hq, b.next hi2 i2, by omega, done⟩
          · intro L2 H7 us3 nL2 e7 hL2 ll rl
            have e47 := e46.trans e7
            have e67 := e6.trans e7
            have ta7 := ta.mono (kp_same e47)
            have tc7 := tc.mono (kp_same e47)
            walk_at "g"
            have sq : SqX K false H7 L2 us3 := SqL.of hL2
            refine ⟨L2, rfl, ⟨us3, sq⟩, x_lcL (K := K) (aheadL ws dim j (behindL dim m hold i)) (walk_s false) (by rw [ahead_len]; omega) (by omega) (fun H2 e => sqx_same e sq) yat_same ?_ ?_⟩
            · rintro i2 x y2 H8 H9 R N2 gy e8 ⟨rfl, g1⟩ done
              obtain ⟨p, r, tr, dd, rfl, tp, hr1, hd1⟩ := rl i2 x g1
              have ey : y2 = bestR ws dim j i2 (holdAt dim.2 i2 (behindL dim m hold i)) := by
                unfold aheadL at gy
                rw [List.getElem?_map] at gy
                obtain ⟨j2, gj, rfl⟩ := Option.map_eq_some_iff.mp gy
                have ej : i2 = j2 := by
                  rw [List.getElem?_eq_some_iff] at gj
                  obtain ⟨_, z⟩ := gj
                  simpa using z
                subst ej
                rfl
              subst ey
              refine x_gpair (tp.mono (kp_same e8)) ⟨rfl, ?_⟩
              walk_at "g"
              exact done _ _ (Same.refl _) (Tp.mono (kp_same e8) hr1)
            · intro L3 H8 us4 nL3 e8 hL3 il3
              walk_at "g"
              refine ⟨false, L3, us4, _, rfl, SqL.of hL3, il3, b.so hi2, fun r H9 e9 hr9 => ?_⟩
              have e79 := e8.trans e9
              have bsum := b.sum hi2
              have bDn := (b.next hi2 0).dB
              have bNn := (b.next hi2 0).nB
              walk_at "g"
              refine ⟨_, _, _, _, rfl, Tp.mono (kp_same (e47.trans e79)) q1, hr9, b.hz.sh.small (p600 (by decide)) (p600 (by decide)), one_mul_sz bsum (p600 (by decide)) bDn bNn, fun r2 H10 e10 hr10 => ?_⟩
              have e710 := e79.trans e10
              have e410 := e47.trans e710
              have e610 := e67.trans e710
              walk_at "g"
              refine ⟨.inl ⟨rfl, us, SqL.of (e610 _ _ hw)⟩, ?_⟩
              walk_at "g"
              refine ⟨_, _, _, dim, ws, m, i, D, N, hold, by simp, hx.mono (kp_same e410), Tp.mono (kp_same e410) hy, Tp.mono (kp_same e410) hz, hD, b.wz, b.w4, fun r3 H11 e11 hr11 => ?_⟩
              walk_at "g"
              have szg : Sz (gainsL ws dim m hold i) := by
                have := gains_bd b.wz b.w4 b.hz b.dk.ev n8 b.d0 b.al hi2
                rw [Nat.mul_comm N, ← Nat.mul_assoc, Nat.mul_comm D] at this
                exact this.sz3 (p600 (by decide)) (Nat.le_trans (show 8 * 2 ^ 144 ≤ 2 ^ 200 by decide) (Nat.pow_le_pow_right (by decide) (by decide))) hD.dB hD.nB
              have szl : Sz (dim.1.sh * rsum (aheadL ws dim j (behindL dim m hold i))) := by
                have := b.hz.sh.mul bsum
                rw [← Nat.mul_assoc 2100 8] at this
                exact this.sz3 (p600 (by decide)) (p600 (by decide)) bDn bNn
              refine ⟨_, _, _, _, rfl, hr11, Tp.mono (kp_same e11) hr10, szg, szl, fun r4 H12 e12 hr12 => ?_⟩
              have e612 := e610.trans (e11.trans e12)
              have e412 := e410.trans (e11.trans e12)
              walk_at "g"
              have a3 : sizeLine = 16777216 := sizeLine_eq
              have ul := isl_len lw
              rw [List.length_map, List.length_range] at ul
              refine ⟨wa, us, r4, rfl, rfl, e612 _ _ hw, by omega, ?_⟩
              have k13 : Kp H12 (upd H12 wa (.lst (us ++ [r4]))) := kp_upd (e612 _ _ hw) id
              have e413 : Same H (upd H12 wa (.lst (us ++ [r4]))) := Same.mut e412 na
              have nLw : L2 ≠ wa := fun z => by
                rw [z, e6 _ _ hw] at nL2
                cases nL2
              have nLc : L2 ≠ ca := fun z => by
                rw [z, e6 _ _ hc] at nL2
                cases nL2
              have gL : upd H12 wa (.lst (us ++ [r4])) L2 = some (.lst us3) := by
                rw [upd_ne nLw]
                exact e710.trans (e11.trans e12) _ _ hL2
              have gc : upd H12 wa (.lst (us ++ [r4])) ca = some (.lst ts) := by
                rw [upd_ne nc]
                exact e612 _ _ hc
              have gw : upd H12 wa (.lst (us ++ [r4])) wa = some (.lst (us ++ [r4])) := upd_same
              have lw13 : IsL K (upd H12 wa (.lst (us ++ [r4]))) (us ++ [r4]) ((List.range (i + 1)).map (valueR ws dim j m hold)) := by
                rw [List.range_succ, List.map_append]
                exact isl_app (TpAll.mono ((kp_same e612).trans k13) lw) (isl_one (Tp.mono k13 hr12))
              have qc13 : ∀ (n : Nat) v, ts[n]? = some v → AnyT K (upd H12 wa (.lst (us ++ [r4]))) v := fun n v z => (qc n v z).mono ((kp_same e612).trans k13)
              have rl13 : ∀ (n : Nat) v, us3[n]? = some v → PairT K (upd H12 wa (.lst (us ++ [r4]))) v (bestR ws dim j n (holdAt dim.2 n (behindL dim m hold i))) := fun n v z => (rl n v z).mono ((kp_same (e710.trans (e11.trans e12))).trans k13)
              generalize hH13 : upd H12 wa (.lst (us ++ [r4])) = H13 at *
              dsimp only
              walk_at "g"
              refine ⟨.inl ⟨rfl, ts, SqL.of gc⟩, ?_⟩
              walk_at "g"
              have sq2 : SqX K false H13 L2 us3 := SqL.of gL
              refine ⟨L2, rfl, ⟨us3, sq2⟩, x_lcR (fun _ H v => AnyT K H v) (fun i H H' v k h => h.mono k) (walk_s false) (by omega) (fun H2 e => sqx_same e sq2) yat_same ?_ ?_⟩
              · rintro i2 x H14 H15 R N2 hi3 e14 ⟨rfl, g1⟩ done
                obtain ⟨p, r, tr, dd, rfl, tp, hr1, hd1⟩ := rl13 i2 x g1
                refine x_gpair (tp.mono (kp_same e14)) ⟨rfl, ?_⟩
                walk_at "g"
                exact done _ _ (Same.refl _) ⟨dd, Tp.mono (kp_same e14) hd1⟩
              · intro L4 H14 us5 nL4 e14 hL4 ll4 rl4
                walk_at "g"
                refine ⟨L4, us5, rfl, .inl ⟨SqL.of hL4, fun t o nt oc od => ?_⟩⟩
                have s15 := same_new (o := .frz o (.tup us5)) nt
                walk_at "g"
                refine ⟨by show 2 ≤ sizeLine; decide, fun p hp => ?_⟩
                have s16 := same_new (o := .tup [.int (0 + (i : Nat)), .ref t]) hp
                have e16 := e14.trans (s15.trans s16)
                obtain ⟨ds5, hd5⟩ := any_all rl4
                walk_at "g"
                refine ⟨ca, ts, .ref p, rfl, rfl, e16 _ _ gc, by omega, ?_⟩
                have k17 : Kp (upd (upd H14 t (.frz o (.tup us5))) p (.tup [.int (0 + (i : Nat)), .ref t])) (upd (upd (upd H14 t (.frz o (.tup us5))) p (.tup [.int (0 + (i : Nat)), .ref t])) ca (.lst (ts ++ [.ref p]))) := kp_upd (e16 _ _ gc) id
                refine ⟨_, _, _, us ++ [r4], ts ++ [.ref p], rfl, Same.mut (e413.trans e16) nb, ?_, TpAll.mono ((kp_same e16).trans k17) lw13, upd_same, by rw [List.length_append, lc]; rfl, fun n v z => ?_⟩
                · rw [upd_ne (Ne.symm nc)]
                  exact e16 _ _ gw
                · rcases Nat.lt_trichotomy n ts.length with q | q | q
                  · rw [List.getElem?_append_left q] at z
                    exact (qc13 n v z).mono ((kp_same e16).trans k17)
                  · subst q
                    rw [List.getElem?_append_right (Nat.le_refl _), Nat.sub_self] at z
                    cases z
                    refine ⟨.tuple [.int (0 + (i : Nat)), .tuple ds5], .tup (TupA.mono k17 (.of upd_same)) (.cons (.int _) (.cons (.tup (TupA.mono ((kp_same s16).trans k17) (TupA.frz (K := K) (o := o) upd_same)) (TpAll.mono (((kp_same s15).trans (kp_same s16)).trans k17) hd5)) .nil))⟩
                  · rw [List.getElem?_eq_none (by rw [List.length_append]; show ts.length + 1 ≤ n; omega)] at z
                    cases z
        · rintro σ' H4 ⟨y7, y8, y9, us, ts, rfl, e4, hw, lw, hc, lc, qc⟩
          rw [Int.toNat_natCast] at lw lc
          have vne : (List.range (deedsN dim m)).map (valueR ws dim j m hold) ≠ [] := fun z => by
            have := congrArg List.length z
            rw [List.length_map, List.length_range] at this
            simp at this
            omega
          have ul := isl_len lw
          rw [List.length_map, List.length_range] at ul
          walk_at "g"
          refine ⟨wa, us, _, rfl, hw, lw, vne, fun q hq => ?_, fun H5 e5 => ?_⟩
          · obtain ⟨d, hd, rfl⟩ := List.mem_map.mp hq
            have hd2 := List.mem_range.mp hd
            exact (value_bd b.wz b.w4 b.hz b.dk.ev n8 m8 b.d0 b.al hd2 (b.ahead hd2)).sz (lt3000 b.dB) (lt3000 b.nB)
          · have fa := fb_at vne (Nat.le_refl _)
            rw [upto_all] at fa
            have fl : fb ((List.range (deedsN dim m)).map (valueR ws dim j m hold)) ((List.range (deedsN dim m)).map (valueR ws dim j m hold)).length < ts.length := by
              have := (List.getElem?_eq_some_iff.mp fa).1
              rw [List.length_map, List.length_range] at this
              rw [List.length_map, List.length_range] at *
              omega
            have ft := List.getElem?_eq_getElem fl
            walk_at "g"
            refine x_atL (e5 _ _ hw) (TpAll.mono (kp_same e5) lw) fa fun r hr => ?_
            walk_at "g"
            refine ⟨ca, ts, _, _, rfl, rfl, SqL.of (e5 _ _ hc), atI_nat ft, ?_⟩
            walk_at "g"
            refine ⟨by show 2 ≤ sizeLine; decide, fun p hp => ?_⟩
            obtain ⟨d, hd⟩ := qc _ _ ft
            have s6 := same_new (o := .tup [r, ts[fb ((List.range (deedsN dim m)).map (valueR ws dim j m hold)) ((List.range (deedsN dim m)).map (valueR ws dim j m hold)).length]]) hp
            refine k _ _ ((e4.trans e5).trans s6) ⟨p, _, _, d, rfl, .of upd_same, ?_, Tp.mono (kp_same (e5.trans s6)) hd⟩
            rw [bs]
            exact Tp.mono (kp_same s6) hr
theorem best_n (T : Tx K mg) : ∀ n, FnOk P w K mg base CX0 (n + 9) (He.ga K "best_by") (fdAt K (He.ga K "best_by")) ["dim", "weights", "mark", "many", "hold"] (spb K n)
  | 0 => best_step T 0 _ fn_never fun j e => by omega
  | n + 1 => best_step T (n + 1) _ (best_n T n) fun j e vs H Q E h => by
    have : j = n := by omega
    subst this
    exact h
theorem ok_best_by (T : Tx K mg) : FnOk P w K mg base CX0 13 (He.ga K "best_by") (fdAt K (He.ga K "best_by")) ["dim", "weights", "mark", "many", "hold"] (sp_best_by K) :=
  ⟨fun vs H Q E h => by obtain ⟨n, _, h⟩ := h; exact (best_n (P := P) (w := w) (base := base) T n).len vs H Q E h,
   fun A outer s H args us vs Q E hr he hb hv h => by
    obtain ⟨n, hn, h⟩ := h
    exact (best_n T n).run A outer s H args us vs Q E (hr.mono (by omega)) he hb hv h⟩
end
end K66

/-! W9: the best lookout, the worths by the clock, as the law calls them (own work) -/
namespace K66
open PySem PySem.Spec PyProof.Rows L2
local macro_rules | `(tactic| walk_at "kp") => `(tactic| first
  | exact Kp.refl _
  | assumption
  | (refine Kp.trans (by assumption) ?_; walk_at "kp")
  | (refine Kp.trans (kp_same (by assumption)) ?_; walk_at "kp"))
local macro_rules | `(tactic| walk_at "is") => `(tactic| first
  | assumption
  | (refine Tp.mono ?_ (by assumption); walk_at "kp"))
local macro_rules | `(tactic| walk_at "x") => `(tactic| with_reducible first
  | refine x_seq ?_ | refine x_ret ?_ | refine x_asg ?_ | refine x_ifs ?_ | refine x_drop ?_ | refine x_next ?_ | refine x_call ?_ | refine x_cb ?_ | refine x_cons ?_ | refine x_nil ?_
  | refine x_op ?_ | refine x_un ?_ | refine x_c ?_ | refine x_i0 ?_ | refine x_u ?_ | refine x_eqI ?_ | refine x_neI ?_ | refine x_test ?_ | refine x_tb ?_ | refine x_bl ?_ | refine x_not ?_
  | refine x_and ?_ | refine x_or ?_ | refine x_andV ?_ | refine x_orV ?_ | refine x_notV ?_ | refine x_if ?_ | refine x_tup ?_ | refine x_lst ?_ | refine x_name ?_ | refine x_gcd ?_ | refine x_for ?_ | refine x_par ?_ | refine x_par3 ?_ | refine x_two ?_ | refine x_three ?_ | refine x_lcd ?_ | refine x_yes ?_ | refine x_isq ?_ | refine x_izip ?_ | refine x_ienum ?_ | refine x_irng ?_ | refine x_kt ?_ | refine x_isiI ?_ | refine x_isiB ?_ | refine x_chain ?_ | refine x_sl ?_ | refine x_part ?_ | refine x_nopart ?_ | refine x_isint ?_ | refine x_bm ?_ | refine x_tix ?_ )
local macro_rules | `(tactic| walk_at "v") => `(tactic| ((with_reducible refine x_var (v := ?kv) ?k1 ?_); (case k1 => exact rfl)))
local macro_rules | `(tactic| walk_at "n") => `(tactic| first
  | ((with_reducible refine x_num (q := ?kv) ?k1 ?_); (case k1 => walk_at "is"))
  | ((with_reducible refine x_den (q := ?kv) ?k1 ?_); (case k1 => walk_at "is")))
local macro_rules | `(tactic| walk_at "m") => `(tactic| ((with_reducible refine x_i ?k1 ?_); (case k1 => first | exact mw_nd (by assumption) (by assumption) | exact mw_nn (by assumption) (by assumption) | exact mw_dd (by assumption) (by assumption))))
local macro_rules | `(tactic| walk_at "tu") => `(tactic| first
  | assumption
  | (refine TupA.mono ?_ (by assumption); walk_at "kp"))
local macro_rules | `(tactic| walk_at "i") => `(tactic| first
  | ((with_reducible refine x_ix0 (us := ?ku) (v := ?kv) ?k1 ?k2 ?_); (case k1 => walk_at "tu"); (case k2 => exact rfl))
  | ((with_reducible refine x_ix1 (us := ?ku) (v := ?kv) ?k1 ?k2 ?_); (case k1 => walk_at "tu"); (case k2 => exact rfl))
  | ((with_reducible refine x_ix2 (us := ?ku) (v := ?kv) ?k1 ?k2 ?_); (case k1 => walk_at "tu"); (case k2 => exact rfl)))
local macro_rules | `(tactic| walk_at "ht") => `(tactic| refine x_t (by first | rfl | (simp; done) | (simp; omega)) ?_)
local macro_rules | `(tactic| walk_at "hf") => `(tactic| refine x_f (by first | rfl | (simp; done) | (simp; omega)) ?_)
local macro_rules | `(tactic| walk_at "g") => `(tactic| repeat (first | walk_at "x" | walk_at "v" | walk_at "n" | walk_at "i" | walk_at "m" | ((with_reducible refine x_f ?k1 ?_); (case k1 => exact rfl)) | ((with_reducible refine x_t ?k1 ?_); (case k1 => exact rfl))))

theorem Bst.hold {dim : Dim} {ws : List Rat} {n D N : Nat} {x : List Rat} (b : Bst dim ws n D N x) (j : Nat) : Bst dim ws n D N (holdAt dim.2 j x) :=
  ⟨b.dk, b.hz, b.wz, b.w4, hold_len b.ln, b.d0, b.dB, b.nB, hold_all b.d0 b.al, b.n4⟩
theorem Bst.so0 {dim : Dim} {ws : List Rat} {n D N : Nat} {x : List Rat} (b : Bst dim ws n D N x) : SumOk (aheadL ws dim n x) := by
  refine ⟨D * EE n, N * GG n, ⟨Nat.mul_pos b.d0 (ee_pos n), lt3000 b.dB⟩, ⟨?_, lt3000 b.nB⟩, fun q hq => ?_⟩
  · rw [ahead_len]
    exact small3000 (p600 (Nat.le_trans b.dk.m3 (by decide))) b.nB
  · obtain ⟨j, hj, rfl⟩ := List.mem_map.mp hq
    exact (b.hold j).bd (List.mem_range.mp hj)
structure Stt (dim : Dim) (ws : List Rat) (n D N : Nat) (x : List Rat) : Prop where
  b : Bst dim ws n D N x
  wl : ws.length = dim.1.pays
  nn : ∀ q ∈ x, 0 ≤ q
  so : SumOk x
  one : rsum x = 1
def sp_best_lookout_by (K : PySem.W.Frag) : Sp := fun vs H Q _ => ∃ (x y z : V) (dim : Dim) (ws : List Rat) (n D N : Nat) (st : List Rat), vs = [x, z, y, .int n] ∧ IsDim K H x dim ∧ Is K H y ws ∧ Is K H z st ∧ Bst dim ws n D N st ∧
  ∀ v H', Same H H' → PairT K H' v (lookR ws dim n st) → Q v H'
def sp_check_dim (K : PySem.W.Frag) : Sp := fun vs H Q _ => ∃ (x : V) (dim : Dim), vs = [x] ∧ IsDim K H x dim ∧ DimOk dim ∧ ∀ H', Same H H' → Q .non H'
def sp_best_lookout (K : PySem.W.Frag) : Sp := fun vs H Q _ => ∃ (x y z : V) (dim : Dim) (ws : List Rat) (n D N : Nat) (st : List Rat), vs = [x, z, y, .int n] ∧ IsDim K H x dim ∧ Is K H y ws ∧ Is K H z st ∧ Stt dim ws n D N st ∧
  ∀ v H', Same H H' → PairT K H' v (lookR ws dim n st) → Q v H'
def sp_checked (K : PySem.W.Frag) : Sp := fun vs H Q _ => ∃ (x y : V) (h : House) (ws : List Rat) (n : Nat), vs = [x, y, .int n] ∧ Is K H x h ∧ Is K H y ws ∧ Tm h ws ∧ n ≤ 30 ∧
  ∀ a r1 r2 H', Same H H' → TupA K H' a [r1, r2] → Is K H' r1 ((List.range (n + 1)).map (wor h ws)) → Q (.ref a) H'
def sp_timed_worths (K : PySem.W.Frag) : Sp := fun vs H Q _ => ∃ (x y : V) (h : House) (ws : List Rat) (n : Nat), vs = [x, y, .int n] ∧ Is K H x h ∧ Is K H y ws ∧ Tm h ws ∧ n ≤ 30 ∧
  ∀ v H', Same H H' → Is K H' v ((List.range (n + 1)).map (wor h ws)) → Q v H'
section
variable {P : Program} {w : World} {K : PySem.W.Frag} {mg : Str → Option Value} {base : Heap}
theorem ok_best_lookout_by (T : Tx K mg) : FnOk P w K mg base CX0 14 (He.ga K "best_lookout_by") (fdAt K (He.ga K "best_lookout_by")) ["dim", "start", "weights", "many"] (sp_best_lookout_by K) := by
  refine FunD.ok T.F_best_lookout_by sc_best_lookout_by (fun vs H Q E h => by obtain ⟨x, y, z, dim, ws, n, D, N, st, rfl, _⟩ := h; rfl) (fun cdv A outer s H vs Q E hr h => ⟨_, PSs.nox (pss_cons (ps_setLc (i := 4) (own := [("mark", 5), ("hold", 6)]) rfl sc_best_lookout_by.nd rfl rfl (sw_true rfl rfl rfl (by decide +kernel)) (kp_enum K true (by rfl) T.z_enumerate (pa_cons (pe_call (ok_holds_by T) (hr.mono (by decide)) (by rfl) T.m_holds_by T.F_holds_by.kp (b_holds_by T) .nil pass0 (pa_cons (pv 0) (pa_cons (pv 1) pa_nil))) pa_nil)) (blkOk_by (by kernel_rfl)) (fun _ _ _ _ _ => (kg_tup K (n := 2) rfl (pgs_cons (pg_name (i := 5) sc_best_lookout_by.nd rfl (Or.inl rfl) (Or.inr rfl)) (pgs_cons (pg_name (i := 6) sc_best_lookout_by.nd rfl (Or.inl rfl) (Or.inr rfl)) pgs_nil)))) (fun _ _ _ _ _ => pts_nil) (fun _ _ _ _ _ => (pe_call (ok_best_by T) (hr.mono (by decide)) (by rfl) T.m_best_by T.F_best_by.kp (b_best_by T) .nil pass0 (pa_cons (pv 0) (pa_cons (pv 2) (pa_cons (pv 5) (pa_cons (pv 3) (pa_cons (pv 6) pa_nil))))))))
    (pss_one (ps_ret (pe_tup (pa_cons (pe_call (ok_total T) (hr.mono (by decide)) (by rfl) T.m_total T.F_total.kp (b_total T) .nil pass0 (pa_cons (pe_lc (own := [("number", 7), ("_", 8)]) rfl sc_best_lookout_by.nd (kp_sq K false (pv 4)) (blkOk_by (by kernel_rfl)) (fun _ _ _ _ _ => (kg_tup K (n := 2) rfl (pgs_cons (pg_name (i := 7) sc_best_lookout_by.nd rfl (Or.inl rfl) (Or.inr rfl)) (pgs_cons (pg_name (i := 8) sc_best_lookout_by.nd rfl (Or.inl rfl) (Or.inr rfl)) pgs_nil)))) (fun _ _ _ _ _ => pts_nil) (fun _ _ _ _ _ => (pv 7))) pa_nil)) (pa_cons (pe_callTy (kc_tuple K) (by rfl) T.z_tuple bt_tuple (pa_cons (pe_lc (own := [("_", 8), ("tree", 9)]) rfl sc_best_lookout_by.nd (kp_sq K false (pv 4)) (blkOk_by (by kernel_rfl)) (fun _ _ _ _ _ => (kg_tup K (n := 2) rfl (pgs_cons (pg_name (i := 8) sc_best_lookout_by.nd rfl (Or.inl rfl) (Or.inr rfl)) (pgs_cons (pg_name (i := 9) sc_best_lookout_by.nd rfl (Or.inl rfl) (Or.inr rfl)) pgs_nil)))) (fun _ _ _ _ _ => pts_nil) (fun _ _ _ _ _ => (pv 9))) pa_nil)) pa_nil)))))), ?_⟩)
  obtain ⟨x, y, z, dim, ws, n, D, N, st, rfl, hx, hy, hz, b, k⟩ := h
  have m3 := b.dk.m3
  have n8 := b.n8
  have ln := b.ln
  have n4 := b.n4
  walk_at "g"
  refine ⟨x, z, dim, st, rfl, hx, hz, by omega, b.dk.ne, by omega, fun v H1 e1 hv => ?_⟩
  obtain ⟨g0, gs, rfl, tg, lg⟩ := is_list hv
  have gl := isl_len lg
  have hbl : (holdsBy dim.2 st).length = mmany dim.2 := by unfold holdsBy; rw [List.length_map, List.length_range]
  walk_at "g"
  refine ⟨g0, gs, rfl, tg.sqx, x_lcR (fun i2 H v => PairT K H v (bestR ws dim n i2 (holdAt dim.2 i2 st))) (fun i H H' v k h => h.mono k) walk_e (by omega) (fun H2 e => sqx_same e tg.sqx) ypair_same ?_ ?_⟩
  · rintro i2 x H7 H8 R N2 hi3 e7 ⟨Tq, u1, u2, rfl, nT, rfl, g1, g2⟩ done
    cases g1
    obtain ⟨l, gq, hq⟩ := isl_get lg g2
    unfold holdsBy at gq
    rw [List.getElem?_map] at gq
    obtain ⟨j2, gj, rfl⟩ := Option.map_eq_some_iff.mp gq
    have ej : i2 = j2 := by
      rw [List.getElem?_eq_some_iff] at gj
      obtain ⟨_, z⟩ := gj
      simpa using z
    subst ej
    have e8 := e7.trans (same_new (o := .tup [.int (i2 : Nat), u2]) nT)
    have e18 := e1.trans e8
    refine x_gpair (.of upd_same) ⟨rfl, ?_⟩
    walk_at "g"
    exact ⟨n, n4, _, _, _, dim, ws, i2, D, N, holdAt dim.2 i2 st, rfl, hx.mono (kp_same e18), Tp.mono (kp_same e18) hy, Tp.mono (kp_same e8) hq, b.hold i2, by omega, done⟩
  · intro L2 H7 us3 nL2 e7 hL2 ll rl
    have e17 := e1.trans e7
    walk_at "g"
    have sq : SqX K false H7 L2 us3 := SqL.of hL2
    refine ⟨L2, rfl, ⟨us3, sq⟩, x_lcL (K := K) (aheadL ws dim n st) (walk_s false) (by rw [ahead_len]; omega) (by omega) (fun H2 e => sqx_same e sq) yat_same ?_ ?_⟩
    · rintro i2 x y2 H8 H9 R N2 gy e8 ⟨rfl, g1⟩ done
      obtain ⟨p, r, tr, dd, rfl, tp, hr1, hd1⟩ := rl i2 x g1
      have ey : y2 = bestR ws dim n i2 (holdAt dim.2 i2 st) := by
        unfold aheadL at gy
        rw [List.getElem?_map] at gy
        obtain ⟨j2, gj, rfl⟩ := Option.map_eq_some_iff.mp gy
        have ej : i2 = j2 := by
          rw [List.getElem?_eq_some_iff] at gj
          obtain ⟨_, z⟩ := gj
          simpa using z
        subst ej
        rfl
      subst ey
      refine x_gpair (tp.mono (kp_same e8)) ⟨rfl, ?_⟩
      walk_at "g"
      exact done _ _ (Same.refl _) (Tp.mono (kp_same e8) hr1)
    · intro L3 H8 us4 nL3 e8 hL3 il3
      walk_at "g"
      refine ⟨false, L3, us4, _, rfl, SqL.of hL3, il3, b.so0, fun r H9 e9 hr9 => ?_⟩
      have e79 := e8.trans e9
      have sq9 := sqx_same e79 sq
      walk_at "g"
      refine ⟨L2, rfl, ⟨us3, sq9⟩, x_lcR (fun _ H v => AnyT K H v) (fun i H H' v k h => h.mono k) (walk_s false) (by omega) (fun H2 e => sqx_same e sq9) yat_same ?_ ?_⟩
      · rintro i2 x H14 H15 R N2 hi3 e14 ⟨rfl, g1⟩ done
        obtain ⟨p, r, tr, dd, rfl, tp, hr1, hd1⟩ := rl i2 x g1
        have k14 := kp_same (e79.trans e14)
        refine x_gpair (tp.mono k14) ⟨rfl, ?_⟩
        walk_at "g"
        exact done _ _ (Same.refl _) ⟨dd, Tp.mono k14 hd1⟩
      · intro L4 H14 us5 nL4 e14 hL4 ll4 rl4
        walk_at "g"
        refine ⟨L4, us5, rfl, .inl ⟨SqL.of hL4, fun t o nt oc od => ?_⟩⟩
        have s15 := same_new (o := .frz o (.tup us5)) nt
        walk_at "g"
        refine ⟨by show 2 ≤ sizeLine; decide, fun p hp => ?_⟩
        have s16 := same_new (o := .tup [r, .ref t]) hp
        obtain ⟨ds5, hd5⟩ := any_all rl4
        have e914 := e14.trans (s15.trans s16)
        exact k _ _ ((e17.trans e79).trans e914) ⟨p, _, _, .tuple ds5, rfl, .of upd_same, Tp.mono (kp_same e914) hr9, .tup (TupA.mono (kp_same s16) (TupA.frz (K := K) (o := o) upd_same)) (TpAll.mono (kp_same (s15.trans s16)) hd5)⟩
theorem ok_check_dim (T : Tx K mg) : FnOk P w K mg base CX0 9 (He.ga K "check_dim") (fdAt K (He.ga K "check_dim")) ["value"] (sp_check_dim K) := by
  refine FunD.ok T.F_check_dim sc_check_dim (fun vs H Q E h => by obtain ⟨x, dim, rfl, _⟩ := h; rfl) (fun cdv A outer s H vs Q E hr h => ⟨_, PSs.nox (pss_one (ps_if (pt_not (pt_val (pe_call (ok_is_dim_by T) (hr.mono (by decide)) (by rfl) T.m_is_dim_by T.F_is_dim_by.kp (b_is_dim_by T) .nil pass0 (pa_cons (pv 0) pa_nil)))) (pss_one ps_never) pss_nil)), ?_⟩)
  obtain ⟨x, dim, rfl, hx, dk, k⟩ := h
  walk_at "g"
  refine ⟨x, dim, rfl, hx, dk, fun H1 e1 => ?_⟩
  walk_at "g"
  exact k _ e1
theorem ok_best_lookout (T : Tx K mg) : FnOk P w K mg base CX0 15 (He.ga K "best_lookout") (fdAt K (He.ga K "best_lookout")) ["dim", "start", "weights", "many"] (sp_best_lookout K) := by
  refine FunD.ok T.F_best_lookout sc_best_lookout (fun vs H Q E h => by obtain ⟨x, y, z, dim, ws, n, D, N, st, rfl, _⟩ := h; rfl) (fun cdv A outer s H vs Q E hr h => ⟨_, PSs.nox (pss_cons (ps_expr (pe_call (ok_check_dim T) (hr.mono (by decide)) (by rfl) T.m_check_dim T.F_check_dim.kp (b_check_dim T) .nil pass0 (pa_cons (pv 0) pa_nil)))
    (pss_cons (ps_expr (pe_call (ok_check_start T) (hr.mono (by decide)) (by rfl) T.m_check_start T.F_check_start.kp (b_check_start T) .nil pass0 (pa_cons (pe_ix (ki_tup K) (pv 0) pe_int (fun _ _ => rfl)) (pa_cons (pv 1) pa_nil))))
    (pss_cons (ps_expr (pe_call (ok_check_weights T) (hr.mono (by decide)) (by rfl) T.m_check_weights T.F_check_weights.kp (b_check_weights T) .nil pass0 (pa_cons (pe_ix (ki_tup K) (pv 0) pe_int (fun _ _ => rfl)) (pa_cons (pv 2) pa_nil))))
    (pss_cons (ps_expr (pe_call (ok_check_steps T) (hr.mono (by decide)) (by rfl) T.m_check_steps T.F_check_steps.kp (b_check_steps T) .nil pass0 (pa_cons (pv 3) pa_nil)))
    (pss_one (ps_ret (pe_call (ok_best_lookout_by T) (hr.mono (by decide)) (by rfl) T.m_best_lookout_by T.F_best_lookout_by.kp (b_best_lookout_by T) .nil pass0 (pa_cons (pv 0) (pa_cons (pv 1) (pa_cons (pv 2) (pa_cons (pv 3) pa_nil))))))))))), ?_⟩)
  obtain ⟨x, y, z, dim, ws, n, D, N, st, rfl, hx, hy, hz, q, k⟩ := h
  obtain ⟨a, x1, x2, rfl, ta, h1, hmk⟩ := id hx
  have n8 := q.b.n8
  have p1 := q.b.dk.ho.p1
  have ln := q.b.ln
  have l2 := q.b.dk.ln
  walk_at "g"
  refine ⟨_, dim, rfl, hx, q.b.dk, fun H1 e1 => ?_⟩
  have ta1 := ta.mono (kp_same e1)
  walk_at "g"
  refine ⟨x1, z, dim.1, st, rfl, Tp.mono (kp_same e1) h1, Tp.mono (kp_same e1) hz, by omega, by omega, q.nn, q.so, q.one, fun H2 e2 => ?_⟩
  have e12 := e1.trans e2
  have ta2 := ta.mono (kp_same e12)
  walk_at "g"
  refine ⟨x1, y, dim.1, ws, rfl, Tp.mono (kp_same e12) h1, Tp.mono (kp_same e12) hy, q.wl, by omega, fun H3 e3 => ?_⟩
  have e13 := e12.trans e3
  have n4 := q.b.n4
  walk_at "g"
  refine ⟨_, rfl, by omega, by omega, ?_⟩
  walk_at "g"
  exact ⟨_, y, z, dim, ws, n, D, N, st, rfl, hx.mono (kp_same e13), Tp.mono (kp_same e13) hy, Tp.mono (kp_same e13) hz, q.b, fun v H4 e4 hv => k v H4 (e13.trans e4) hv⟩
theorem ok_checked (T : Tx K mg) : FnOk P w K mg base CX0 9 (He.ga K "checked") (fdAt K (He.ga K "checked")) ["house", "weights", "many"] (sp_checked K) := by
  obtain ⟨_, m_MOST_TIMED⟩ := T.i_MOST_TIMED
  refine FunD.ok T.F_checked sc_checked (fun vs H Q E h => by obtain ⟨x, y, h, ws, n, rfl, _⟩ := h; rfl) (fun cdv A outer s H vs Q E hr h => ⟨_, PSs.nox (pss_cons (ps_expr (pe_call (ok_check_house T) (hr.mono (by decide)) (by rfl) T.m_check_house T.F_check_house.kp (b_check_house T) .nil pass0 (pa_cons (pv 0) pa_nil)))
    (pss_cons (ps_expr (pe_call (ok_check_weights T) (hr.mono (by decide)) (by rfl) T.m_check_weights T.F_check_weights.kp (b_check_weights T) .nil pass0 (pa_cons (pv 0) (pa_cons (pv 1) pa_nil))))
    (pss_cons (ps_expr (pe_call (ok_check_between T) (hr.mono (by decide)) (by rfl) T.m_check_between T.F_check_between.kp (b_check_between T) .nil pass0 (pa_cons (pv 2) (pa_cons pe_int (pa_cons (pe_glob (v := .int 30) (by rfl) m_MOST_TIMED ⟨_, rfl⟩) pa_nil)))))
    (pss_one (ps_ret (pe_call (ok_timed_by T) (hr.mono (by decide)) (by rfl) T.m_timed_by T.F_timed_by.kp (b_timed_by T) .nil pass0 (pa_cons (pv 0) (pa_cons (pv 1) (pa_cons (pv 2) pa_nil))))))))), ?_⟩)
  obtain ⟨x, y, h, ws, n, rfl, hx, hy, tm, hn, k⟩ := h
  have p1 := tm.ho.p1
  walk_at "g"
  refine ⟨x, h, rfl, hx, tm.ho, fun H1 e1 => ?_⟩
  walk_at "g"
  refine ⟨x, y, h, ws, rfl, Tp.mono (kp_same e1) hx, Tp.mono (kp_same e1) hy, tm.wl, by omega, fun H2 e2 => ?_⟩
  have e12 := e1.trans e2
  walk_at "g"
  refine ⟨_, _, _, rfl, by omega, by omega, ?_⟩
  walk_at "g"
  exact ⟨x, y, h, ws, n, rfl, Tp.mono (kp_same e12) hx, Tp.mono (kp_same e12) hy, tm, hn, fun a r1 r2 H' e t i => k a r1 r2 H' (e12.trans e) t i⟩
theorem ok_timed_worths (T : Tx K mg) : FnOk P w K mg base CX0 10 (He.ga K "timed_worths") (fdAt K (He.ga K "timed_worths")) ["house", "weights", "many"] (sp_timed_worths K) := by
  refine FunD.ok T.F_timed_worths sc_timed_worths (fun vs H Q E h => by obtain ⟨x, y, h, ws, n, rfl, _⟩ := h; rfl) (fun cdv A outer s H vs Q E hr h => ⟨_, PSs.nox (pss_one (ps_ret (pe_ix (ki_tup K) (pe_call (ok_checked T) (hr.mono (by decide)) (by rfl) T.m_checked T.F_checked.kp (b_checked T) .nil pass0 (pa_cons (pv 0) (pa_cons (pv 1) (pa_cons (pv 2) pa_nil)))) pe_int (fun _ _ => rfl)))), ?_⟩)
  obtain ⟨x, y, h, ws, n, rfl, hx, hy, tm, hn, k⟩ := h
  walk_at "g"
  refine ⟨x, y, h, ws, n, rfl, hx, hy, tm, hn, fun a r1 r2 H1 e1 t i => ?_⟩
  walk_at "g"
  exact k _ _ e1 i
end
end K66

/-! L0: the pot, more rules (own work) -/
namespace K66
open PySem PySem.Spec PyProof.Rows L2
def kInt1 : List V → Hp → VK → Prop := fun vs H Q => (∃ i, vs = [.int i] ∧ Q (.int i) H) ∨ ∃ k, vs = [.bl k] ∧ Q (.int (if k then 1 else 0)) H
theorem kc_int {X : Cx} : CallR X (.type "int") kInt1 := call_int1
def kAbs : List V → Hp → VK → Prop := fun vs H Q => ∃ i, vs = [.int i] ∧ Q (.int (if i < 0 then -i else i)) H
theorem kc_abs {X : Cx} : CallR X (.builtin "abs") kAbs := call_abs
def kDvm : List V → Hp → VK → Prop := fun vs H Q => ∃ i j, vs = [.int i, .int j] ∧ CDiv i j ∧ ∀ p, H p = none → Q (.ref p) (upd H p (.tup [.int (i / j), .int (i % j)]))
theorem kc_divmod {X : Cx} : CallR X (.builtin "divmod") kDvm := call_divmod
def kMax2 : List V → Hp → VK → Prop := fun vs H Q => ∃ i j, vs = [.int i, .int j] ∧ Q (.int (if j > i then j else i)) H
theorem kc_max2 {X : Cx} (hc : X.calm = true) : CallR X (.builtin "max") kMax2 := call_max2 hc
def kMin2 : List V → Hp → VK → Prop := fun vs H Q => ∃ i j, vs = [.int i, .int j] ∧ Q (.int (if j < i then j else i)) H
theorem kc_min2 {X : Cx} (hc : X.calm = true) : CallR X (.builtin "min") kMin2 := call_min2 hc
section
variable {K : PySem.W.Frag} {σ : L2.St} {H : Hp} {Q : VK} {D : Ends} {te ta tb : TE} {tc : TT} {tu : TS} {v x y : V}
theorem x_int1 {i : Int} (h : Q (.int i) H) : kInt1 [.int i] H Q := .inl ⟨i, rfl, h⟩
theorem x_int1b {k : Bool} (h : Q (.int (if k then 1 else 0)) H) : kInt1 [.bl k] H Q := .inr ⟨k, rfl, h⟩
theorem x_absI {i : Int} (h : Q (.int (i.natAbs : Nat)) H) : kAbs [.int i] H Q := ⟨i, rfl, by
  have e : (if i < 0 then -i else i) = ((i.natAbs : Nat) : Int) := by split <;> omega
  rw [e]
  exact h⟩
theorem x_dvm {i j : Int} (h : CDiv i j ∧ ∀ p, H p = none → Q (.ref p) (upd H p (.tup [.int (i / j), .int (i % j)]))) : kDvm [.int i, .int j] H Q := ⟨i, j, rfl, h⟩
theorem x_lrg {tr : L2.St → Hp → (Int → Int → Hp → Prop) → Prop} (h : tr σ H fun a b H1 => RgOk a b ∧ ∀ q, H1 q = none → Q (.ref q) (upd H1 q (.lst (rgV a b)))) : tLstRg tr σ H Q := h
theorem x_rg1 {R : Int → Int → Hp → Prop} (h : ta σ H fun x H1 => ∃ n, x = .int n ∧ R 0 n H1) : tRg1 ta σ H R := h
theorem x_gsub {t : TSet} {R : L2.St → Hp → Prop} (h : ta σ H fun o H1 => tb σ H1 fun i H2 => t o i v H2 fun H3 => R σ H3) : gSub ta tb t v σ H R := h
theorem x_max2 {i j : Int} (h : Q (.int (if j > i then j else i)) H) : kMax2 [.int i, .int j] H Q := ⟨i, j, rfl, h⟩
theorem x_min2 {i j : Int} (h : Q (.int (if j < i then j else i)) H) : kMin2 [.int i, .int j] H Q := ⟨i, j, rfl, h⟩
theorem x_w0 (h : ∃ W : Nat → L2.St → Hp → Prop, (∃ m, W m σ H) ∧ ∀ m σ H, W m σ H → tc σ H fun b H1 => if b = true then ∃ N : L2.St → Hp → Prop, (∀ σ' H', N σ' H' → ∃ m', m' < m ∧ W m' σ' H') ∧ tu { D with nx := N, ct := N, bk := D.nx } σ H1 else D.nx σ H1) : tWhile tc tu D σ H := h
theorem cmul_l {i j : Int} (h1 : -(2 ^ 64) < i) (h2 : i < 2 ^ 64) : CMul i j := .inl ⟨h1, h2⟩
theorem cmul_r {i j : Int} (h1 : -(2 ^ 64) < j) (h2 : j < 2 ^ 64) : CMul i j := .inr ⟨h1, h2⟩
theorem cmod_p {j : Int} (h : 0 < j) : 0 < j := h
theorem cdiv_p {i j : Int} (h1 : 0 < j) (h2 : j < 1073741824) : CDiv i j := ⟨h1, h2⟩
theorem x_set0 {p : Addr} {x y z u : V} {R : Hp → Prop} (t : H p = some (.lst [x, y, z])) (k : R (upd H p (.lst [u, y, z]))) : rSetL (.ref p) (.int 0) u H R := ⟨p, _, 0, 0, rfl, rfl, t, rfl, k⟩
theorem x_set1 {p : Addr} {x y z u : V} {R : Hp → Prop} (t : H p = some (.lst [x, y, z])) (k : R (upd H p (.lst [x, u, z]))) : rSetL (.ref p) (.int 1) u H R := ⟨p, _, 1, 1, rfl, rfl, t, rfl, k⟩
theorem x_set2 {p : Addr} {x y z u : V} {R : Hp → Prop} (t : H p = some (.lst [x, y, z])) (k : R (upd H p (.lst [x, y, u]))) : rSetL (.ref p) (.int 2) u H R := ⟨p, _, 2, 2, rfl, rfl, t, rfl, k⟩
theorem x_ixl {p : Addr} {us : List V} (i : Nat) (t : H p = some (.lst us)) (e : us[i]? = some x) (k : Q x H) : rIxL K (.ref p) (.int (i : Int)) H Q := ⟨p, us, i, x, rfl, rfl, SqL.of t, atI_nat e, k⟩
theorem x_ixl0 {p : Addr} {us : List V} (t : H p = some (.lst us)) (e : us[0]? = some x) (k : Q x H) : rIxL K (.ref p) (.int 0) H Q := x_ixl 0 t e k
theorem x_ixl1 {p : Addr} {us : List V} (t : H p = some (.lst us)) (e : us[1]? = some x) (k : Q x H) : rIxL K (.ref p) (.int 1) H Q := x_ixl 1 t e k
theorem x_ixl2 {p : Addr} {us : List V} (t : H p = some (.lst us)) (e : us[2]? = some x) (k : Q x H) : rIxL K (.ref p) (.int 2) H Q := x_ixl 2 t e k
end
/-! ### the pot -/
def Pot (H : Hp) (p : Addr) : Prop := ∃ a b c : Int, H p = some (.lst [.int a, .int b, .int c]) ∧ 0 ≤ a ∧ 0 ≤ b ∧ b < 2147483543 ∧ 0 ≤ c
/-- all but the pot is kept, the pot is still one -/
def PF (p : Addr) (H H' : Hp) : Prop := (∀ b o, b ≠ p → H b = some o → H' b = some o) ∧ Pot H' p
section
variable {p : Addr} {H H1 H2 H' : Hp}
theorem Pot.same (e : Same H H') (h : Pot H p) : Pot H' p := by
  obtain ⟨a, b, c, h1, h2⟩ := h
  exact ⟨a, b, c, e _ _ h1, h2⟩
theorem PF.of (e : Same H H') (h : Pot H p) : PF p H H' := ⟨fun b o _ q => e b o q, h.same e⟩
theorem PF.trans (a : PF p H H1) (b : PF p H1 H2) : PF p H H2 := ⟨fun c o n q => b.1 c o n (a.1 c o n q), b.2⟩
theorem PF.kp (h : Pot H p) (e : PF p H H') : Kp H H' := fun b o t q => by
  refine e.1 b o (fun z => ?_) q
  subst z
  obtain ⟨_, _, _, h1, _⟩ := h
  rw [h1] at q
  cases q
  exact t
theorem PF.add (a : PF p H H1) (e : Same H1 H2) : PF p H H2 := a.trans (.of e a.2)
/-- a thing that H did not know may change -/
theorem PF.mut {a : Addr} {o : HO} (e : PF p H H') (h : H a = none) (np : a ≠ p) : PF p H (upd H' a o) := by
  refine ⟨fun b u n q => ?_, ?_⟩
  · rw [upd_ne (ne_of_none q h)]
    exact e.1 b u n q
  · obtain ⟨x, y, z, h1, h2⟩ := e.2
    exact ⟨x, y, z, by rw [upd_ne (Ne.symm np)]; exact h1, h2⟩
theorem PF.new {a : Addr} {o : HO} (e : PF p H H') (h : H' a = none) : PF p H (upd H' a o) := e.add (same_new h)
theorem Pot.ne {a : Addr} (h : Pot H p) (n : H a = none) : a ≠ p := fun z => by
  subst z
  obtain ⟨_, _, _, h1, _⟩ := h
  rw [n] at h1
  cases h1
theorem PF.lst {a : Addr} {us : List V} (e : PF p H H') (h : H a = some (.lst us)) (n : a ≠ p) : H' a = some (.lst us) := e.1 _ _ n h
/-- what is new behind is new ahead -/
theorem PF.free {a : Addr} (e : PF p H H') (h : H' a = none) (hp : Pot H p) : H a = none := by
  cases q : H a with
  | none => rfl
  | some o =>
    by_cases z : a = p
    · subst z
      exact absurd rfl (e.2.ne h)
    · have := e.1 a o z q
      rw [h] at this
      cases this
theorem PF.put (e : PF p H H') (a b c : Int) (h1 : 0 ≤ a) (h2 : 0 ≤ b) (h3 : b < 2147483543) (h4 : 0 ≤ c) : PF p H (upd H' p (.lst [.int a, .int b, .int c])) :=
  ⟨fun x u n q => by rw [upd_ne n]; exact e.1 x u n q, a, b, c, upd_same, h1, h2, h3, h4⟩
end
end K66

/-! L1: draws, the law's fractions (own work) -/
namespace K66
open PySem PySem.Spec PyProof.Rows L2
local macro_rules | `(tactic| walk_at "kp") => `(tactic| first
  | exact Kp.refl _
  | assumption
  | (refine Kp.trans (by assumption) ?_; walk_at "kp")
  | (refine Kp.trans (kp_same (by assumption)) ?_; walk_at "kp"))
local macro_rules | `(tactic| walk_at "is") => `(tactic| first
  | assumption
  | (refine Tp.mono ?_ (by assumption); walk_at "kp"))
local macro_rules | `(tactic| walk_at "x") => `(tactic| with_reducible first
  | refine x_seq ?_ | refine x_ret ?_ | refine x_asg ?_ | refine x_ifs ?_ | refine x_drop ?_ | refine x_next ?_ | refine x_call ?_ | refine x_cb ?_ | refine x_cons ?_ | refine x_nil ?_
  | refine x_op ?_ | refine x_un ?_ | refine x_c ?_ | refine x_i0 ?_ | refine x_u ?_ | refine x_eqI ?_ | refine x_neI ?_ | refine x_test ?_ | refine x_tb ?_ | refine x_bl ?_ | refine x_not ?_
  | refine x_and ?_ | refine x_or ?_ | refine x_andV ?_ | refine x_orV ?_ | refine x_notV ?_ | refine x_if ?_ | refine x_tup ?_ | refine x_lst ?_ | refine x_name ?_ | refine x_gcd ?_ | refine x_for ?_ | refine x_par ?_ | refine x_par3 ?_ | refine x_two ?_ | refine x_three ?_ | refine x_lcd ?_ | refine x_yes ?_ | refine x_isq ?_ | refine x_izip ?_ | refine x_ienum ?_ | refine x_irng ?_ | refine x_kt ?_ | refine x_isiI ?_ | refine x_isiB ?_ | refine x_chain ?_ | refine x_sl ?_ | refine x_part ?_ | refine x_nopart ?_ | refine x_isint ?_ | refine x_bm ?_ | refine x_tix ?_ )
local macro_rules | `(tactic| walk_at "v") => `(tactic| ((with_reducible refine x_var (v := ?kv) ?k1 ?_); (case k1 => exact rfl)))
local macro_rules | `(tactic| walk_at "n") => `(tactic| first
  | ((with_reducible refine x_num (q := ?kv) ?k1 ?_); (case k1 => walk_at "is"))
  | ((with_reducible refine x_den (q := ?kv) ?k1 ?_); (case k1 => walk_at "is")))
local macro_rules | `(tactic| walk_at "m") => `(tactic| ((with_reducible refine x_i ?k1 ?_); (case k1 => first | exact mw_nd (by assumption) (by assumption) | exact mw_nn (by assumption) (by assumption) | exact mw_dd (by assumption) (by assumption))))
local macro_rules | `(tactic| walk_at "tu") => `(tactic| first
  | assumption
  | (refine TupA.mono ?_ (by assumption); walk_at "kp"))
local macro_rules | `(tactic| walk_at "i") => `(tactic| first
  | ((with_reducible refine x_ix0 (us := ?ku) (v := ?kv) ?k1 ?k2 ?_); (case k1 => walk_at "tu"); (case k2 => exact rfl))
  | ((with_reducible refine x_ix1 (us := ?ku) (v := ?kv) ?k1 ?k2 ?_); (case k1 => walk_at "tu"); (case k2 => exact rfl))
  | ((with_reducible refine x_ix2 (us := ?ku) (v := ?kv) ?k1 ?k2 ?_); (case k1 => walk_at "tu"); (case k2 => exact rfl)))
local macro_rules | `(tactic| walk_at "ht") => `(tactic| refine x_t (by first | rfl | (simp; done) | (simp; omega)) ?_)
local macro_rules | `(tactic| walk_at "hf") => `(tactic| refine x_f (by first | rfl | (simp; done) | (simp; omega)) ?_)
local macro_rules | `(tactic| walk_at "g") => `(tactic| repeat (first | walk_at "x" | walk_at "v" | walk_at "n" | walk_at "i" | walk_at "m" | ((with_reducible refine x_f ?k1 ?_); (case k1 => exact rfl)) | ((with_reducible refine x_t ?k1 ?_); (case k1 => exact rfl))))

local macro_rules | `(tactic| walk_at "y") => `(tactic| with_reducible first
  | refine x_int1 ?_ | refine x_absI ?_ | refine x_dvm ?_ | refine x_lrg ?_ | refine x_rg1 ?_ | refine x_gsub ?_ | refine x_max2 ?_ | refine x_min2 ?_ | refine x_w0 ?_)
local macro_rules | `(tactic| walk_at "o") => `(tactic| ((with_reducible refine x_i ?k1 ?_); (case k1 => first | exact cmul_l (by decide) (by decide) | exact cmul_r (by decide) (by decide) | exact cmod_p (by decide) | exact cdiv_p (by decide) (by decide))))
local macro_rules | `(tactic| walk_at "g") => `(tactic| repeat (first | walk_at "x" | walk_at "v" | walk_at "y" | walk_at "n" | walk_at "i" | walk_at "m" | walk_at "o" | ((with_reducible refine x_f ?k1 ?_); (case k1 => exact rfl)) | ((with_reducible refine x_t ?k1 ?_); (case k1 => exact rfl))))

def sp_law_take (K : PySem.W.Frag) : Sp := fun vs H Q _ => ∃ (p : Addr) (m : Nat), vs = [.ref p, .int m] ∧ Pot H p ∧ 0 < m ∧ m < 1000000000 ∧ ∀ (k : Nat) H', k < m → PF p H H' → Q (.int k) H'
def sp_law_pick (K : PySem.W.Frag) : Sp := fun vs H Q _ => ∃ (p a : Addr) (us : List V), vs = [.ref p, .ref a] ∧ Pot H p ∧ TupA K H a us ∧ us ≠ [] ∧ us.length ≤ 1000 ∧ ∀ v H', v ∈ us → PF p H H' → Q v H'
def sp_law_low (K : PySem.W.Frag) : Sp := fun vs H Q _ => ∃ n d : Int, vs = [.int n, .int d] ∧ 0 < d ∧ d.natAbs < 2 ^ 8000 ∧ ∀ v H', Same H H' → Is K H' v (mkRat n d.natAbs) → Q v H'
def sp_law_plus (K : PySem.W.Frag) : Sp := sp_plus K
def sp_law_times (K : PySem.W.Frag) : Sp := sp_times K
def sp_law_below (K : PySem.W.Frag) : Sp := sp_is_less K
def sp_law_total (K : PySem.W.Frag) : Sp := fun vs H Q _ => ∃ (a : Addr) (us : List V) (xs : List Rat), vs = [.ref a] ∧ H a = some (.lst us) ∧ IsL K H us xs ∧ SumOk xs ∧ ∀ v H', Same H H' → Is K H' v (rsum xs) → Q v H'
def sp_law_dot (K : PySem.W.Frag) : Sp := sp_dot K
def sp_law_end (K : PySem.W.Frag) : Sp := fun vs H Q _ => ∃ (a : Addr) (us : List V) (l : List Rat), vs = [.ref a, .bl true] ∧ H a = some (.lst us) ∧ IsL K H us l ∧ l ≠ [] ∧ (∀ q ∈ l, Sz q) ∧ ∀ v H', Same H H' → Is K H' v (lmax l) → Q v H'
section
variable {P : Program} {w : World} {K : PySem.W.Frag} {mg : Str → Option Value} {base : Heap}
theorem ok_law_take (T : Tx K mg) : FnOk P w K mg base CX0 1 (He.ga K "_law_take") (fdAt K (He.ga K "_law_take")) ["_law_pot_here", "_law_many"] (sp_law_take K) := by
  refine FunD.ok T.F_law_take sc_law_take (fun vs H Q E h => by obtain ⟨p, m, rfl, _⟩ := h; rfl) (fun cdv A outer s H vs Q E hr h => ⟨_, PSs.nox (pss_cons (ps_if (pt_cmpR op_gt (pe_ix (ki_list K) (pv 0) pe_int (fun _ _ => rfl)) pe_int (nomark _)) (pss_cons (ps_asg (pe_callB kc_divmod (by rfl) T.z_divmod bt_divmod (pa_cons (pe_ix (ki_list K) (pv 0) pe_int (fun _ _ => rfl)) (pa_cons (pv 1) pa_nil))) (kg_tup K (n := 2) rfl (pgs_cons (pg_sub (pv 0) pe_int set_list) (pgs_cons (pg_name (i := 2) sc_law_take.nd rfl (by first | exact Or.inl rfl | exact Or.inr rfl) (Or.inl rfl)) pgs_nil))))
    (pss_one (ps_ret (pv 2)))) pss_nil)
    (pss_cons (ps_asg (pe_op op_add (pe_ix (ki_list K) (pv 0) pe_int (fun _ _ => rfl)) pe_int) (pg_sub (pv 0) pe_int set_list))
    (pss_cons (ps_set (i := 3) sc_law_take.nd rfl (by first | exact Or.inl rfl | exact Or.inr rfl) (pe_op op_mod (pe_callTy kc_int (by rfl) T.z_int bt_int (pa_cons (pe_op op_add (pe_op op_add (pe_op op_mul (pe_ix (ki_list K) (pv 0) pe_int (fun _ _ => rfl)) pe_int) (pe_op op_mul (pe_ix (ki_list K) (pv 0) pe_int (fun _ _ => rfl)) pe_int)) pe_int) pa_nil)) pe_int))
    (pss_cons (ps_asg (pv 3) (pg_sub (pv 0) pe_int set_list))
    (pss_one (ps_ret (pe_op op_mod (pe_callTy kc_int (by rfl) T.z_int bt_int (pa_cons (pe_op op_fdiv (pe_op op_mod (pe_callTy kc_int (by rfl) T.z_int bt_int (pa_cons (pe_op op_mul (pv 3) (pe_op op_add (pe_op op_mod (pe_callTy kc_int (by rfl) T.z_int bt_int (pa_cons (pv 3) pa_nil)) pe_int) pe_int)) pa_nil)) pe_int) pe_int) pa_nil)) (pv 1)))))))), ?_⟩)
  obtain ⟨p, m, rfl, hp, h1, h2, k⟩ := h
  obtain ⟨a, b, c, hh, a0, b0, b1, c0⟩ := id hp
  walk_at "g"
  refine x_ixl0 hh rfl ?_
  walk_at "g"
  refine x_2 (fun z => ?_) (fun z => ?_)
  · walk_at "g"
    refine x_ixl0 hh rfl ?_
    walk_at "g"
    refine ⟨⟨by omega, by omega⟩, fun q hq => ?_⟩
    have hh2 := same_new (o := .tup [.int (a / m), .int (a % m)]) hq _ _ hh
    refine ⟨q, _, rfl, SqT.of upd_same, rfl, _, _, rfl, ?_⟩
    walk_at "g"
    refine x_set0 hh2 ?_
    refine ⟨_, _, rfl, ?_⟩
    walk_at "g"
    refine ⟨rfl, ?_⟩
    walk_at "g"
    have e : a % (m : Int) = ((a % (m : Int)).toNat : Nat) := (Int.toNat_of_nonneg (Int.emod_nonneg _ (by omega))).symm
    have lt : a % (m : Int) < m := Int.emod_lt_of_pos _ (by omega)
    rw [e]
    exact k _ _ (by omega) (PF.put (.of (same_new hq) hp) _ _ _ (Int.ediv_nonneg a0 (by omega)) b0 b1 c0)
  · walk_at "g"
    refine x_ixl2 hh rfl ?_
    walk_at "g"
    refine x_set2 hh ?_
    have p1 : PF p H (upd H p (.lst [.int a, .int b, .int (c + 1)])) := PF.put (.of (Same.refl _) hp) _ _ _ a0 b0 b1 (by omega)
    have g1 : upd H p (.lst [.int a, .int b, .int (c + 1)]) p = some (.lst [.int a, .int b, .int (c + 1)]) := upd_same
    generalize upd H p (.lst [.int a, .int b, .int (c + 1)]) = H1 at p1 g1 ⊢
    walk_at "g"
    refine x_ixl1 g1 rfl ?_
    walk_at "g"
    refine x_ixl2 g1 rfl ?_
    walk_at "g"
    have s0 : 0 ≤ (b * 41023 + (c + 1) * 60101 + 7) % 2147483543 := Int.emod_nonneg _ (by decide)
    have s1 : (b * 41023 + (c + 1) * 60101 + 7) % 2147483543 < 2147483543 := Int.emod_lt_of_pos _ (by decide)
    generalize (b * 41023 + (c + 1) * 60101 + 7) % 2147483543 = sd at s0 s1 ⊢
    refine x_set1 g1 ?_
    have p2 : PF p H (upd H1 p (.lst [.int a, .int sd, .int (c + 1)])) := p1.put _ _ _ a0 s0 s1 (by omega)
    generalize upd H1 p (.lst [.int a, .int sd, .int (c + 1)]) = H2 at p2 ⊢
    walk_at "g"
    refine x_i (cmul_l (by omega) (by omega)) ?_
    walk_at "g"
    refine x_i (show (0 : Int) < m by omega) ?_
    generalize sd * (sd % 6007 + 20011) % 2147483489 / 211 = z2
    have e : z2 % (m : Int) = ((z2 % (m : Int)).toNat : Nat) := (Int.toNat_of_nonneg (Int.emod_nonneg _ (by omega))).symm
    have lt : z2 % (m : Int) < m := Int.emod_lt_of_pos _ (by omega)
    rw [e]
    exact k _ _ (by omega) p2
theorem ok_law_pick (T : Tx K mg) : FnOk P w K mg base CX0 2 (He.ga K "_law_pick") (fdAt K (He.ga K "_law_pick")) ["_law_pot_here", "_law_some"] (sp_law_pick K) := by
  refine FunD.ok T.F_law_pick sc_law_pick (fun vs H Q E h => by obtain ⟨p, a, us, rfl, _⟩ := h; rfl) (fun cdv A outer s H vs Q E hr h => ⟨_, PSs.nox (pss_one (ps_ret (pe_ix (ki_tup K) (pv 1) (pe_call (ok_law_take T) (hr.mono (by decide)) (by rfl) T.m_law_take T.F_law_take.kp (b_law_take T) .nil pass0 (pa_cons (pv 0) (pa_cons (pe_callB (kc_len K) (by rfl) T.z_len bt_len (pa_cons (pv 1) pa_nil)) pa_nil))) (fun _ _ => rfl)))), ?_⟩)
  obtain ⟨p, a, us, rfl, hp, ta, ne, hl, k⟩ := h
  have h0 : 0 < us.length := List.length_pos_iff.mpr ne
  walk_at "g"
  refine x_lenT ta ?_
  walk_at "g"
  refine ⟨p, us.length, rfl, hp, h0, by omega, fun i H1 hi f1 => ?_⟩
  have g := List.getElem?_eq_getElem hi
  exact ⟨a, us, i, _, rfl, rfl, ta.mono (f1.kp hp), atI_nat g, k _ _ (List.getElem_mem hi) f1⟩
theorem gcd_step (u v : Nat) : Nat.gcd v (u % v) = Nat.gcd u v := by
  rw [Nat.gcd_comm v, ← Nat.gcd_rec, Nat.gcd_comm]
theorem ok_law_low (T : Tx K mg) : FnOk P w K mg base CX0 1 (He.ga K "_law_low") (fdAt K (He.ga K "_law_low")) ["_law_top", "_law_low_here"] (sp_law_low K) := by
  refine FunD.ok T.F_law_low sc_law_low (fun vs H Q E h => by obtain ⟨n, d, rfl, _⟩ := h; rfl) (fun cdv A outer s H vs Q E hr h => ⟨_, PSs.nox (pss_cons (ps_par (i := 2) (j := 3) rfl sc_law_low.nd rfl rfl (by decide) rfl rfl (pa_cons (pe_callB kc_abs (by rfl) T.z_abs bt_abs (pa_cons (pv 0) pa_nil)) (pa_cons (pe_callB kc_abs (by rfl) T.z_abs bt_abs (pa_cons (pv 1) pa_nil)) pa_nil)) (by rfl))
    (pss_cons (ps_while PassesOwn.never (pt_cmpR op_gt (pv 3) pe_int (nomark _)) (pss_one (ps_par (i := 2) (j := 3) rfl sc_law_low.nd rfl rfl (by decide) rfl rfl (pa_cons (pv 3) (pa_cons (pe_op op_mod (pe_callTy kc_int (by rfl) T.z_int bt_int (pa_cons (pv 2) pa_nil)) (pv 3)) pa_nil)) (by rfl))))
    (pss_one (ps_ret (pe_ifExp (pt_cmpR op_gt (pv 1) pe_int (nomark _)) (pe_tup (pa_cons (pe_op op_fdivW (pv 0) (pv 2)) (pa_cons (pe_op op_fdivW (pv 1) (pv 2)) pa_nil))) (pe_tup (pa_cons (pe_op op_sub pe_int (pe_op op_fdivW (pv 0) (pv 2))) (pa_cons (pe_op op_sub pe_int (pe_op op_fdivW (pv 1) (pv 2))) pa_nil)))))))), ?_⟩)
  obtain ⟨n, d, rfl, h0, hd, k⟩ := h
  walk_at "g"
  refine ⟨fun μ σ H' => ∃ u v : Nat, σ = [some (.int n), some (.int d), some (.int u), some (.int v)] ∧ H' = H ∧ Nat.gcd u v = Nat.gcd n.natAbs d.natAbs ∧ v = μ, ⟨_, _, _, rfl, rfl, rfl, rfl⟩, ?_⟩
  rintro μ σ H' ⟨u, v, rfl, rfl, hg, rfl⟩
  walk_at "g"
  refine x_2 (fun z => ?_) (fun z => ?_)
  · have z := of_decide_eq_true z
    refine ⟨fun σ' H' => ∃ u2 v2 : Nat, v2 < v ∧ σ' = [some (.int n), some (.int d), some (.int u2), some (.int v2)] ∧ H' = _ ∧ Nat.gcd u2 v2 = Nat.gcd n.natAbs d.natAbs, fun σ' H' ⟨u2, v2, lt, e1, e2, e3⟩ => ⟨v2, lt, u2, v2, e1, e2, e3, rfl⟩, ?_⟩
    walk_at "g"
    refine x_i z ?_
    walk_at "g"
    refine ⟨v, u % v, Nat.mod_lt _ (by omega), ?_, rfl, by rw [gcd_step]; exact hg⟩
    show _ = [some (V.int n), some (.int d), some (.int (v : Int)), some (.int ((u % v : Nat) : Int))]
    rw [Int.natCast_emod]
    rfl
  · have z := of_decide_eq_false z
    have v0 : v = 0 := by omega
    subst v0
    rw [Nat.gcd_zero_right] at hg
    subst hg
    walk_at "g"
    refine x_t (decide_eq_true h0) ?_
    walk_at "g"
    refine x_i (gcd_small h0 hd) ?_
    walk_at "g"
    refine x_i (gcd_small h0 hd) ?_
    walk_at "g"
    refine x_new2 fun p hp => k _ _ (same_new hp) (is_rat_mk (.of ?_))
    rw [upd_same, mk_num h0, mk_den h0]
theorem ok_law_plus (T : Tx K mg) : FnOk P w K mg base CX0 2 (He.ga K "_law_plus") (fdAt K (He.ga K "_law_plus")) ["_law_one", "_law_two"] (sp_law_plus K) := by
  refine FunD.ok T.F_law_plus sc_law_plus (fun vs H Q E h => by obtain ⟨x, y, p, q, rfl, _⟩ := h; rfl) (fun cdv A outer s H vs Q E hr h => ⟨_, PSs.nox (pss_one (ps_ret (pe_call (ok_law_low T) (hr.mono (by decide)) (by rfl) T.m_law_low T.F_law_low.kp (b_law_low T) .nil pass0 (pa_cons (pe_op op_add (pe_op op_mulW (pe_ix (ki_tup K) (pv 0) pe_int (fun _ _ => rfl)) (pe_ix (ki_tup K) (pv 1) pe_int (fun _ _ => rfl))) (pe_op op_mulW (pe_ix (ki_tup K) (pv 1) pe_int (fun _ _ => rfl)) (pe_ix (ki_tup K) (pv 0) pe_int (fun _ _ => rfl)))) (pa_cons (pe_op op_mulW (pe_ix (ki_tup K) (pv 0) pe_int (fun _ _ => rfl)) (pe_ix (ki_tup K) (pv 1) pe_int (fun _ _ => rfl))) pa_nil))))), ?_⟩)
  obtain ⟨x, y, p, q, rfl, hx, hy, sp, sq, k⟩ := h
  walk_at "g"
  refine ⟨_, _, rfl, dd_pos p q, dd_small sp sq, fun v H' e hv => k v H' e ?_⟩
  rwa [add_mk] at hv
theorem ok_law_times (T : Tx K mg) : FnOk P w K mg base CX0 2 (He.ga K "_law_times") (fdAt K (He.ga K "_law_times")) ["_law_one", "_law_two"] (sp_law_times K) := by
  refine FunD.ok T.F_law_times sc_law_times (fun vs H Q E h => by obtain ⟨x, y, p, q, rfl, _⟩ := h; rfl) (fun cdv A outer s H vs Q E hr h => ⟨_, PSs.nox (pss_one (ps_ret (pe_call (ok_law_low T) (hr.mono (by decide)) (by rfl) T.m_law_low T.F_law_low.kp (b_law_low T) .nil pass0 (pa_cons (pe_op op_mulW (pe_ix (ki_tup K) (pv 0) pe_int (fun _ _ => rfl)) (pe_ix (ki_tup K) (pv 1) pe_int (fun _ _ => rfl))) (pa_cons (pe_op op_mulW (pe_ix (ki_tup K) (pv 0) pe_int (fun _ _ => rfl)) (pe_ix (ki_tup K) (pv 1) pe_int (fun _ _ => rfl))) pa_nil))))), ?_⟩)
  obtain ⟨x, y, p, q, rfl, hx, hy, sp, sq, k⟩ := h
  walk_at "g"
  refine ⟨_, _, rfl, dd_pos p q, dd_small sp sq, fun v H' e hv => k v H' e ?_⟩
  rwa [mul_mk] at hv
theorem ok_law_below (T : Tx K mg) : FnOk P w K mg base CX0 1 (He.ga K "_law_below") (fdAt K (He.ga K "_law_below")) ["_law_one", "_law_two"] (sp_law_below K) := by
  refine FunD.ok T.F_law_below sc_law_below (fun vs H Q E h => by obtain ⟨x, y, p, q, rfl, _⟩ := h; rfl) (fun cdv A outer s H vs Q E hr h => ⟨_, PSs.nox (pss_one (ps_ret (pe_cmpR op_lt (pe_op op_mulW (pe_ix (ki_tup K) (pv 0) pe_int (fun _ _ => rfl)) (pe_ix (ki_tup K) (pv 1) pe_int (fun _ _ => rfl))) (pe_op op_mulW (pe_ix (ki_tup K) (pv 1) pe_int (fun _ _ => rfl)) (pe_ix (ki_tup K) (pv 0) pe_int (fun _ _ => rfl))) (nomark _)))), ?_⟩)
  obtain ⟨x, y, p, q, rfl, hx, hy, sp, sq, k⟩ := h
  walk_at "g"
  simp only [Rat.lt_iff] at k
  exact k
theorem int_is {H : Hp} {p : Addr} (i : Int) (h : TupA K H p [.int i, .int 1]) : Is K H (.ref p) (i : Rat) := is_rat_mk h
theorem ok_law_total (T : Tx K mg) : FnOk P w K mg base CX0 3 (He.ga K "_law_total") (fdAt K (He.ga K "_law_total")) ["_law_some"] (sp_law_total K) := by
  refine FunD.ok T.F_law_total sc_law_total (fun vs H Q E h => by obtain ⟨a, us, xs, rfl, _⟩ := h; rfl) (fun cdv A outer s H vs Q E hr h => ⟨_, PSs.nox (pss_cons (ps_set (i := 1) sc_law_total.nd rfl (by first | exact Or.inl rfl | exact Or.inr rfl) (pe_tup (pa_cons pe_int (pa_cons pe_int pa_nil))))
    (pss_cons (ps_for PassesOwn.never rfl (kp_sq K false (pv 0)) (pg_name (i := 2) sc_law_total.nd rfl (by first | exact Or.inl rfl | exact Or.inr rfl) (Or.inl rfl)) (pss_one (ps_set (i := 1) sc_law_total.nd rfl (by first | exact Or.inl rfl | exact Or.inr rfl) (pe_call (ok_law_plus T) (hr.mono (by decide)) (by rfl) T.m_law_plus T.F_law_plus.kp (b_law_plus T) .nil pass0 (pa_cons (pv 1) (pa_cons (pv 2) pa_nil))))))
    (pss_one (ps_ret (pv 1))))), ?_⟩)
  obtain ⟨a, us, xs, rfl, ha, hl, so, k⟩ := h
  have e1 := isl_len hl
  walk_at "g"
  refine ⟨by show 2 ≤ sizeLine; decide, fun p hp => ?_⟩
  have s0 := same_new (o := .tup [.int 0, .int 1]) hp
  have sL : SqX K false (upd H p (.tup [.int 0, .int 1])) a us := SqL.of (s0 _ _ ha)
  walk_at "g"
  refine ⟨a, rfl, ⟨us, sL⟩, for_it (walk_s false) (fun i σ' H' => ∃ u y2, σ' = [some (.ref a), some u, y2] ∧ Same (upd H p (.tup [.int 0, .int 1])) H' ∧ Is K H' u (rsum (xs.take i))) ⟨_, none, rfl, Same.refl _, int_is 0 (.of upd_same)⟩ (fun i σ' H' _ ⟨u, y2, _, e, _⟩ => sqx_same e sL) ?_ ?_⟩
  · rintro i x σ' H1 H2 hi ⟨u, y2, rfl, e, hu⟩ ⟨rfl, gx⟩
    obtain ⟨z, gz, hz⟩ := isl_get hl gx
    have hz' := Tp.mono (kp_same (s0.trans e)) hz
    refine x_name ?_
    walk_at "g"
    refine ⟨_, _, _, _, rfl, hu, hz', so.part i, so.item (List.mem_of_getElem? gz), fun v H3 e3 hv => ?_⟩
    refine ⟨v, some x, rfl, e.trans e3, ?_⟩
    rw [rsum_take gz]
    exact hv
  · rintro σ' H1 ⟨u, y2, rfl, e, hu⟩
    rw [e1, List.take_length] at hu
    walk_at "g"
    exact k _ _ (s0.trans e) hu
theorem ok_law_dot (T : Tx K mg) : FnOk P w K mg base CX0 3 (He.ga K "_law_dot") (fdAt K (He.ga K "_law_dot")) ["_law_one", "_law_two"] (sp_law_dot K) := by
  refine FunD.ok T.F_law_dot sc_law_dot (fun vs H Q E h => by obtain ⟨x, y, ws, gs, rfl, _⟩ := h; rfl) (fun cdv A outer s H vs Q E hr h => ⟨_, PSs.nox (pss_cons (ps_set (i := 2) sc_law_dot.nd rfl (by first | exact Or.inl rfl | exact Or.inr rfl) (pe_tup (pa_cons pe_int (pa_cons pe_int pa_nil))))
    (pss_cons (ps_for PassesOwn.never rfl (kp_zip K true true (by rfl) T.z_zip (pa_cons (pv 0) (pa_cons (pv 1) pa_nil))) (kg_tup K (n := 2) rfl (pgs_cons (pg_name (i := 3) sc_law_dot.nd rfl (by first | exact Or.inl rfl | exact Or.inr rfl) (Or.inl rfl)) (pgs_cons (pg_name (i := 4) sc_law_dot.nd rfl (by first | exact Or.inl rfl | exact Or.inr rfl) (Or.inl rfl)) pgs_nil))) (pss_one (ps_set (i := 2) sc_law_dot.nd rfl (by first | exact Or.inl rfl | exact Or.inr rfl) (pe_call (ok_law_plus T) (hr.mono (by decide)) (by rfl) T.m_law_plus T.F_law_plus.kp (b_law_plus T) .nil pass0 (pa_cons (pv 2) (pa_cons (pe_call (ok_law_times T) (hr.mono (by decide)) (by rfl) T.m_law_times T.F_law_times.kp (b_law_times T) .nil pass0 (pa_cons (pv 3) (pa_cons (pv 4) pa_nil))) pa_nil))))))
    (pss_one (ps_ret (pv 2))))), ?_⟩)
  obtain ⟨x, y, ws, gs, rfl, hx, hy, sw, sg, hn, so, k⟩ := h
  obtain ⟨a, us, rfl, ta, la⟩ := is_list hx
  obtain ⟨b, zs, rfl, tb, lb⟩ := is_list hy
  have e1 := isl_len la
  have e2 := isl_len lb
  walk_at "g"
  refine ⟨by show 2 ≤ sizeLine; decide, fun p hp => ?_⟩
  have s0 := same_new (o := .tup [.int 0, .int 1]) hp
  walk_at "g"
  have ta0 := (ta.mono (kp_same s0)).sqx
  have tb0 := (tb.mono (kp_same s0)).sqx
  refine ⟨a, b, us, zs, rfl, ta0, tb0, for_it (walk_x rfl) (fun i σ' H' => ∃ u y3 y4, σ' = [some (.ref a), some (.ref b), some u, y3, y4] ∧ Same (upd H p (.tup [.int 0, .int 1])) H' ∧ Is K H' u (rsum ((List.zipWith (fun a b => a * b) ws gs).take i))) ⟨_, none, none, rfl, Same.refl _, int_is 0 (.of upd_same)⟩ (fun i σ' H' _ ⟨u, y3, y4, _, e, _⟩ => ⟨sqx_same e ta0, sqx_same e tb0⟩) ?_ ?_⟩
  · rintro i x σ' H1 H2 hi ⟨u, y3, y4, rfl, e, hu⟩ ⟨Tq, u1, u2, rfl, nT, rfl, g1, g2⟩
    obtain ⟨p1, gp, hp1⟩ := isl_get la g1
    obtain ⟨q1, gq, hq1⟩ := isl_get lb g2
    have gz : (List.zipWith (fun a b => a * b) ws gs)[i]? = some (p1 * q1) := by
      rw [List.getElem?_zipWith, gp, gq]
    have sT := same_new (o := .tup [u1, u2]) nT
    have e3 := s0.trans (e.trans sT)
    refine x_gpair (.of upd_same) ?_
    walk_at "g"
    refine ⟨_, _, _, _, rfl, Tp.mono (kp_same e3) hp1, Tp.mono (kp_same e3) hq1, sw _ (List.mem_of_getElem? gp), sg _ (List.mem_of_getElem? gq), fun v H4 e4 hv => ?_⟩
    walk_at "g"
    refine ⟨_, _, _, _, rfl, Tp.mono (kp_same (sT.trans e4)) hu, hv, so.part i, so.item (List.mem_of_getElem? gz), fun v2 H5 e5 hv2 => ?_⟩
    refine ⟨v2, _, _, rfl, e.trans (sT.trans (e4.trans e5)), ?_⟩
    rw [rsum_take gz]
    exact hv2
  · rintro σ' H1 ⟨u, y3, y4, rfl, e, hu⟩
    rw [e1, e2, ← List.length_zipWith (f := fun (a b : Rat) => a * b), List.take_length] at hu
    walk_at "g"
    exact k _ _ (s0.trans e) hu
theorem ok_law_end (T : Tx K mg) : FnOk P w K mg base CX0 2 (He.ga K "_law_end") (fdAt K (He.ga K "_law_end")) ["_law_some", "_law_is_greatest"] (sp_law_end K) := by
  refine FunD.ok T.F_law_end sc_law_end (fun vs H Q E h => by obtain ⟨a, us, l, rfl, _⟩ := h; rfl) (fun cdv A outer s H vs Q E hr h => ⟨_, PSs.nox (pss_cons (ps_set (i := 2) sc_law_end.nd rfl (by first | exact Or.inl rfl | exact Or.inr rfl) (pe_ix (ki_list K) (pv 0) pe_int (fun _ _ => rfl)))
    (pss_cons (ps_for PassesOwn.never rfl (kp_sq K false (pv 0)) (pg_name (i := 3) sc_law_end.nd rfl (by first | exact Or.inl rfl | exact Or.inr rfl) (Or.inl rfl)) (pss_cons (ps_asg (pe_ifExp (pt_val (pv 1)) (pe_tup (pa_cons (pv 2) (pa_cons (pv 3) pa_nil))) (pe_tup (pa_cons (pv 3) (pa_cons (pv 2) pa_nil)))) (kg_tup K (n := 2) rfl (pgs_cons (pg_name (i := 4) sc_law_end.nd rfl (by first | exact Or.inl rfl | exact Or.inr rfl) (Or.inl rfl)) (pgs_cons (pg_name (i := 5) sc_law_end.nd rfl (by first | exact Or.inl rfl | exact Or.inr rfl) (Or.inl rfl)) pgs_nil))))
    (pss_one (ps_if (pt_val (pe_call (ok_law_below T) (hr.mono (by decide)) (by rfl) T.m_law_below T.F_law_below.kp (b_law_below T) .nil pass0 (pa_cons (pv 4) (pa_cons (pv 5) pa_nil)))) (pss_one (ps_set (i := 2) sc_law_end.nd rfl (by first | exact Or.inl rfl | exact Or.inr rfl) (pv 3))) pss_nil))))
    (pss_one (ps_ret (pv 2))))), ?_⟩)
  obtain ⟨a, us, l, rfl, ha, la, ne, sz, k⟩ := h
  have e1 := isl_len la
  have h0 : l[0]? = some (upto l 0) := by
    cases l with
    | nil => exact absurd rfl ne
    | cons x r => rfl
  obtain ⟨v0, g0, hv0⟩ := isl_at la h0
  have mem : ∀ i, i ≤ l.length → upto l i ∈ l := fun i hi => List.mem_of_getElem? (fb_at ne hi)
  walk_at "g"
  refine x_ixl0 ha g0 ?_
  have sL : SqX K false H a us := SqL.of ha
  walk_at "g"
  refine ⟨a, rfl, ⟨us, sL⟩, for_it (walk_s false) (fun i σ' H' => ∃ (u : V) (y3 y4 y5 : Option V), σ' = [some (.ref a), some (.bl true), some u, y3, y4, y5] ∧ Same H H' ∧ Is K H' u (upto l i)) ⟨_, none, none, none, rfl, Same.refl _, hv0⟩ (fun i σ' H' _ ⟨u, y3, y4, y5, _, e, _⟩ => sqx_same e sL) ?_ ?_⟩
  · rintro i x σ' H1 H2 hi ⟨u, y3, y4, y5, rfl, e, hu⟩ ⟨rfl, g1⟩
    obtain ⟨q, gq, hq⟩ := isl_get la g1
    have un := upto_snoc gq
    refine x_name ?_
    walk_at "g"
    refine ⟨by show 2 ≤ sizeLine; decide, fun p hp => ?_⟩
    refine x_gpair (.of upd_same) ?_
    have s3 := same_new (o := .tup [u, x]) hp
    have e3 := e.trans s3
    walk_at "g"
    refine ⟨_, _, _, _, rfl, Tp.mono (kp_same s3) hu, Tp.mono (kp_same e3) hq, sz _ (mem i (by omega)), sz _ (List.mem_of_getElem? gq), ?_⟩
    refine ⟨_, rfl, ?_⟩
    refine x_2 (fun c => ?_) (fun c => ?_)
    · rw [if_pos (of_decide_eq_true c)] at un
      walk_at "g"
      exact ⟨_, _, _, _, rfl, e3, by rw [un]; exact Tp.mono (kp_same e3) hq⟩
    · rw [if_neg (of_decide_eq_false c)] at un
      walk_at "g"
      exact ⟨_, _, _, _, rfl, e3, by rw [un]; exact Tp.mono (kp_same s3) hu⟩
  · rintro σ' H1 ⟨u, y3, y4, y5, rfl, e, hu⟩
    rw [e1, upto_all] at hu
    walk_at "g"
    exact k _ _ e hu
end
end K66

/-! MathD: what the law draws, in plain Lean (own work) -/
namespace K66
open PySem
theorem rsum_from (l : List Rat) : ∀ a : Rat, l.foldl (fun a b => a + b) a = a + rsum l := by
  induction l with
  | nil => intro a; show a = a + 0; grind
  | cons x r ih =>
    intro a
    have h1 := ih (a + x)
    have h2 := ih (0 + x)
    show r.foldl (fun a b => a + b) (a + x) = a + r.foldl (fun a b => a + b) (0 + x)
    rw [h1, h2]
    grind
theorem rsum_cons (x : Rat) (l : List Rat) : rsum (x :: l) = x + rsum l := by
  show l.foldl (fun a b => a + b) (0 + x) = _
  rw [rsum_from]
  grind
theorem rsum_nil : rsum [] = 0 := rfl
theorem mk_zero (t : Nat) : mkRat 0 t = 0 := Rat.zero_mkRat t
theorem mk_sum {t : Nat} (ht : 0 < t) : ∀ l : List Nat, rsum (l.map fun k : Nat => mkRat k t) = mkRat (l.sum : Nat) t
  | [] => (mk_zero t).symm
  | k :: l => by
    rw [List.map_cons, rsum_cons, mk_sum ht l, mk_add ht, List.sum_cons, Int.natCast_add]
theorem mk_self {t : Nat} (ht : 0 < t) : mkRat t t = 1 := by
  have h : mkRat (1 * (t : Nat)) (1 * t) = mkRat 1 1 := by
    have := mk_up (D := 1) ht 1
    exact this.symm
  rw [Int.one_mul, Nat.one_mul] at h
  exact h
theorem bd_dvd {z : Int} {e D N : Nat} (he : 0 < e) (k : Nat) (hk : 0 < k) (h : e * k = D) (hz : z.natAbs * k ≤ N) : Bd D N (mkRat z e) := by
  have : Bd e z.natAbs (mkRat z e) := ⟨he, z, rfl, Nat.le_refl _⟩
  have h2 := this.up hk
  rw [h] at h2
  exact h2.mono hz
/-- a part of a whole of few -/
theorem bd_part {k t D : Nat} (ht : 0 < t) (hd : t ∣ D) (hD : 0 < D) (hk : k ≤ t) : Bd D D (mkRat (k : Int) t) := by
  obtain ⟨c, rfl⟩ := hd
  have hc : 0 < c := Nat.pos_of_mul_pos_left hD
  exact bd_dvd ht c hc rfl (by rw [Int.natAbs_natCast]; exact Nat.mul_le_mul_right _ hk)
theorem mk_nn {k t : Nat} (ht : 0 < t) : 0 ≤ mkRat (k : Int) t := by
  have h := mk_num (n := (k : Int)) (d := (t : Int)) (by omega)
  rw [Int.natAbs_natCast] at h
  rw [← Rat.num_nonneg, h]
  exact Int.ediv_nonneg (by omega) (by omega)
theorem gp {k t : Nat} (ht : 0 < t) : 0 < Nat.gcd k t := Nat.gcd_pos_of_pos_right _ ht
theorem mk_pos {k t : Nat} (ht : 0 < t) (hk : 0 < k) : 0 < mkRat (k : Int) t := by
  have h := mk_num (n := (k : Int)) (d := (t : Int)) (by omega)
  rw [Int.natAbs_natCast, Int.natAbs_natCast] at h
  have h2 : 0 < (mkRat (k : Int) t).num := by
    rw [h, ← Int.natCast_ediv]
    have := Nat.div_pos (Nat.le_of_dvd hk (Nat.gcd_dvd_left k t)) (gp ht)
    omega
  rw [Rat.lt_iff]
  have e1 : (0 : Rat).num = 0 := rfl
  have e2 : (0 : Rat).den = 1 := rfl
  rw [e1, e2]
  omega
theorem mk_lt1 {k t : Nat} (ht : 0 < t) (hk : k < t) : mkRat (k : Int) t < 1 := by
  have h := mk_num (n := (k : Int)) (d := (t : Int)) (by omega)
  have h3 := mk_den (n := (k : Int)) (d := (t : Int)) (by omega)
  rw [Int.natAbs_natCast, Int.natAbs_natCast] at h h3
  rw [Rat.lt_iff]
  have e1 : (1 : Rat).num = 1 := rfl
  have e2 : (1 : Rat).den = 1 := rfl
  rw [e1, e2, h, h3, ← Int.natCast_ediv, ← Int.natCast_ediv]
  have : k / Nat.gcd k t < t / Nat.gcd k t := by
    obtain ⟨c, hc⟩ := Nat.gcd_dvd_right k t
    have g0 := gp (k := k) ht
    have e : t / Nat.gcd k t = c := by
      have : t / Nat.gcd k t = (Nat.gcd k t * c) / Nat.gcd k t := congrArg (· / Nat.gcd k t) hc
      rw [this, Nat.mul_div_cancel_left _ g0]
    rw [e, Nat.div_lt_iff_lt_mul g0, Nat.mul_comm, ← hc]
    exact hk
  omega
theorem share_ok {t e : Nat} (h : t < e) (he : e ≤ 7) : 0 ≤ mkRat (t : Int) e ∧ mkRat (t : Int) e < 1 ∧ Bd 2100 2100 (mkRat (t : Int) e) := by
  have h0 : 0 < e := by omega
  refine ⟨mk_nn h0, mk_lt1 h0 h, bd_part h0 ?_ (by decide) (by omega)⟩
  have : ∀ e : Fin 8, 0 < e.val → e.val ∣ 2100 := by decide
  exact this ⟨e, by omega⟩ h0
theorem bd_share99 : 0 ≤ mkRat (99 : Int) 100 ∧ mkRat (99 : Int) 100 < 1 ∧ Bd 2100 2100 (mkRat (99 : Int) 100) := by
  have a := mk_nn (k := 99) (t := 100) (by decide)
  have b := mk_lt1 (k := 99) (t := 100) (by decide) (by decide)
  exact ⟨a, b, bd_part (k := 99) (by decide) (by decide) (by decide) (by decide)⟩
theorem dvd2520 {t : Nat} (h0 : 0 < t) (h : t ≤ 10) : t ∣ 2520 := by
  have : ∀ e : Fin 11, 0 < e.val → e.val ∣ 2520 := by decide
  exact this ⟨t, by omega⟩ h0
theorem dvd27720 {t : Nat} (h0 : 0 < t) (h : t ≤ 12) : t ∣ 27720 := by
  have : ∀ e : Fin 13, 0 < e.val → e.val ∣ 27720 := by decide
  exact this ⟨t, by omega⟩ h0
theorem sum_le {l : List Nat} {b : Nat} (h : ∀ k ∈ l, k ≤ b) : l.sum ≤ l.length * b := by
  induction l with
  | nil => simp
  | cons x r ih =>
    have h1 := h x (by simp)
    have h2 := ih fun k hk => h k (by simp [hk])
    rw [List.sum_cons, List.length_cons, Nat.succ_mul]
    omega
theorem le_sum {l : List Nat} {k : Nat} (h : k ∈ l) : k ≤ l.sum := by
  induction l with
  | nil => cases h
  | cons x r ih =>
    rw [List.sum_cons]
    rcases List.mem_cons.mp h with e | e
    · omega
    · have := ih e
      omega
/-! ### odds -/
theorem odds_one {n k : Nat} (h : k < n) : rsum ((List.range n).map fun i => if i = k then (1 : Rat) else 0) = 1 := by
  have gen : ∀ n : Nat, rsum ((List.range n).map fun i => if i = k then (1 : Rat) else 0) = if k < n then 1 else 0 := by
    intro n
    induction n with
    | zero => rfl
    | succ n ih =>
      rw [List.range_succ, List.map_append, List.map_cons, List.map_nil, rsum_snoc, ih]
      by_cases q : n = k
      · subst q
        rw [if_neg (by omega), if_pos rfl, if_pos (by omega)]
        grind
      · rw [if_neg q]
        by_cases q2 : k < n
        · rw [if_pos q2, if_pos (by omega)]; grind
        · rw [if_neg q2, if_neg (by omega)]; grind
  rw [gen, if_pos h]
/-! ### chances -/
def chG (t : Nat) (p : Nat × Nat) : Option (Nat × Rat) := if 0 < p.2 then some (p.1, mkRat (p.2 : Int) t) else none
def chL (told some : List Nat) : Ch := (told.zip some).filterMap (chG some.sum)
theorem ch_sum {t : Nat} (ht : 0 < t) : ∀ l : List (Nat × Nat), rsum ((l.filterMap (chG t)).map (·.2)) = mkRat ((l.map (·.2)).sum : Nat) t
  | [] => (mk_zero t).symm
  | p :: l => by
    have ih := ch_sum ht l
    rw [List.filterMap_cons, List.map_cons, List.sum_cons]
    unfold chG
    by_cases q : 0 < p.2
    · rw [if_pos q]
      show rsum (mkRat (p.2 : Int) t :: _) = _
      rw [rsum_cons]
      have ih2 : rsum (List.map (fun x => x.snd) (List.filterMap (fun p => if 0 < p.2 then some (p.1, mkRat (p.2 : Int) t) else none) l)) = mkRat ((l.map (·.2)).sum : Nat) t := ih
      rw [ih2, mk_add ht, Int.natCast_add]
    · rw [if_neg q]
      have e : p.2 = 0 := by omega
      rw [e, Nat.zero_add]
      exact ih
theorem zip_snd : ∀ (a b : List Nat), a.length = b.length → (a.zip b).map (·.2) = b
  | [], [], _ => rfl
  | [], _ :: _, h => by cases h
  | _ :: _, [], h => by cases h
  | x :: a, y :: b, h => by
    rw [List.zip_cons_cons, List.map_cons, zip_snd a b (Nat.succ.inj h)]
theorem zip_fst : ∀ (a b : List Nat), a.length = b.length → (a.zip b).map (·.1) = a
  | [], [], _ => rfl
  | [], _ :: _, h => by cases h
  | _ :: _, [], h => by cases h
  | x :: a, y :: b, h => by
    rw [List.zip_cons_cons, List.map_cons, zip_fst a b (Nat.succ.inj h)]
theorem range_bind {α β : Type} (l : List α) (g : α → Option β) : (List.range l.length).filterMap (fun i => (l[i]?).bind g) = l.filterMap g := by
  have h := congrArg (fun m => m.filterMap g) (range_get l)
  simp only [List.filterMap_filterMap] at h
  exact h
end K66

/-! L2a: shuffles, shares, numbers, gains, weights (own work) -/
namespace K66
open PySem PySem.Spec PyProof.Rows L2
local macro_rules | `(tactic| walk_at "kp") => `(tactic| first
  | exact Kp.refl _
  | assumption
  | (refine Kp.trans (by assumption) ?_; walk_at "kp")
  | (refine Kp.trans (kp_same (by assumption)) ?_; walk_at "kp"))
local macro_rules | `(tactic| walk_at "is") => `(tactic| first
  | assumption
  | (refine Tp.mono ?_ (by assumption); walk_at "kp"))
local macro_rules | `(tactic| walk_at "x") => `(tactic| with_reducible first
  | refine x_seq ?_ | refine x_ret ?_ | refine x_asg ?_ | refine x_ifs ?_ | refine x_drop ?_ | refine x_next ?_ | refine x_call ?_ | refine x_cb ?_ | refine x_cons ?_ | refine x_nil ?_
  | refine x_op ?_ | refine x_un ?_ | refine x_c ?_ | refine x_i0 ?_ | refine x_u ?_ | refine x_eqI ?_ | refine x_neI ?_ | refine x_test ?_ | refine x_tb ?_ | refine x_bl ?_ | refine x_not ?_
  | refine x_and ?_ | refine x_or ?_ | refine x_andV ?_ | refine x_orV ?_ | refine x_notV ?_ | refine x_if ?_ | refine x_tup ?_ | refine x_lst ?_ | refine x_name ?_ | refine x_gcd ?_ | refine x_for ?_ | refine x_par ?_ | refine x_par3 ?_ | refine x_two ?_ | refine x_three ?_ | refine x_lcd ?_ | refine x_yes ?_ | refine x_isq ?_ | refine x_izip ?_ | refine x_ienum ?_ | refine x_irng ?_ | refine x_kt ?_ | refine x_isiI ?_ | refine x_isiB ?_ | refine x_chain ?_ | refine x_sl ?_ | refine x_part ?_ | refine x_nopart ?_ | refine x_isint ?_ | refine x_bm ?_ | refine x_tix ?_ )
local macro_rules | `(tactic| walk_at "v") => `(tactic| ((with_reducible refine x_var (v := ?kv) ?k1 ?_); (case k1 => exact rfl)))
local macro_rules | `(tactic| walk_at "n") => `(tactic| first
  | ((with_reducible refine x_num (q := ?kv) ?k1 ?_); (case k1 => walk_at "is"))
  | ((with_reducible refine x_den (q := ?kv) ?k1 ?_); (case k1 => walk_at "is")))
local macro_rules | `(tactic| walk_at "m") => `(tactic| ((with_reducible refine x_i ?k1 ?_); (case k1 => first | exact mw_nd (by assumption) (by assumption) | exact mw_nn (by assumption) (by assumption) | exact mw_dd (by assumption) (by assumption))))
local macro_rules | `(tactic| walk_at "tu") => `(tactic| first
  | assumption
  | (refine TupA.mono ?_ (by assumption); walk_at "kp"))
local macro_rules | `(tactic| walk_at "i") => `(tactic| first
  | ((with_reducible refine x_ix0 (us := ?ku) (v := ?kv) ?k1 ?k2 ?_); (case k1 => walk_at "tu"); (case k2 => exact rfl))
  | ((with_reducible refine x_ix1 (us := ?ku) (v := ?kv) ?k1 ?k2 ?_); (case k1 => walk_at "tu"); (case k2 => exact rfl))
  | ((with_reducible refine x_ix2 (us := ?ku) (v := ?kv) ?k1 ?k2 ?_); (case k1 => walk_at "tu"); (case k2 => exact rfl)))
local macro_rules | `(tactic| walk_at "ht") => `(tactic| refine x_t (by first | rfl | (simp; done) | (simp; omega)) ?_)
local macro_rules | `(tactic| walk_at "hf") => `(tactic| refine x_f (by first | rfl | (simp; done) | (simp; omega)) ?_)
local macro_rules | `(tactic| walk_at "g") => `(tactic| repeat (first | walk_at "x" | walk_at "v" | walk_at "n" | walk_at "i" | walk_at "m" | ((with_reducible refine x_f ?k1 ?_); (case k1 => exact rfl)) | ((with_reducible refine x_t ?k1 ?_); (case k1 => exact rfl))))

local macro_rules | `(tactic| walk_at "y") => `(tactic| with_reducible first
  | refine x_int1 ?_ | refine x_absI ?_ | refine x_dvm ?_ | refine x_lrg ?_ | refine x_rg1 ?_ | refine x_gsub ?_ | refine x_max2 ?_ | refine x_min2 ?_ | refine x_w0 ?_)
local macro_rules | `(tactic| walk_at "o") => `(tactic| ((with_reducible refine x_i ?k1 ?_); (case k1 => first | exact cmul_l (by decide) (by decide) | exact cmul_r (by decide) (by decide) | exact cmod_p (by decide) | exact cdiv_p (by decide) (by decide))))
local macro_rules | `(tactic| walk_at "g") => `(tactic| repeat (first | walk_at "x" | walk_at "v" | walk_at "y" | walk_at "n" | walk_at "i" | walk_at "m" | walk_at "o" | ((with_reducible refine x_f ?k1 ?_); (case k1 => exact rfl)) | ((with_reducible refine x_t ?k1 ?_); (case k1 => exact rfl))))

def iv (l : List Nat) : List V := l.map fun k => V.int (k : Nat)
theorem iv_isl {K : PySem.W.Frag} {H : Hp} : ∀ l : List Nat, IsL K H (iv l) l
  | [] => .nil
  | k :: l => .cons (.int _) (iv_isl l)
theorem iv_len (l : List Nat) : (iv l).length = l.length := List.length_map ..
theorem iv_cast (l : List Nat) : iv l = (l.map fun k : Nat => (k : Int)).map V.int := by
  unfold iv
  rw [List.map_map]
  rfl
theorem sq_iv {K : PySem.W.Frag} {H : Hp} {a : Addr} {l : List Nat} (h : H a = some (.lst (iv l))) : SqL K H a ((l.map fun k : Nat => (k : Int)).map V.int) := by
  rw [iv_cast] at h
  exact SqL.of h
theorem rg_iv (n : Nat) : rgV 0 (n : Int) = iv (List.range n) := by
  unfold rgV iv
  rw [show ((n : Int) - 0).toNat = n by omega]
  refine List.map_congr_left fun i _ => ?_
  rw [Int.zero_add]
theorem ixn {n j : Nat} (h : j < n) : ixN n (j : Int) = some j := by
  unfold ixN
  rw [if_pos (by omega), if_pos (by omega), Int.toNat_natCast]
theorem iv_erase : ∀ (l : List Nat) (j : Nat), (iv l).eraseIdx j = iv (l.eraseIdx j)
  | [], _ => rfl
  | _ :: _, 0 => rfl
  | x :: l, j + 1 => congrArg (V.int (x : Nat) :: ·) (iv_erase l j)
theorem erase_perm : ∀ (l : List Nat) (j : Nat) (h : j < l.length), (l[j] :: l.eraseIdx j).Perm l
  | [], _, h => by cases h
  | x :: l, 0, _ => List.Perm.refl _
  | x :: l, j + 1, h => by
    have ih := erase_perm l j (Nat.lt_of_succ_lt_succ h)
    exact (List.Perm.swap x _ _).trans (List.Perm.cons x ih)
def sp_law_shuffled (K : PySem.W.Frag) : Sp := fun vs H Q _ => ∃ (p : Addr) (n : Nat), vs = [.ref p, .int n] ∧ Pot H p ∧ n ≤ 1000 ∧ ∀ L (l : List Nat) H', PF p H H' → H L = none → H' L = some (.lst (iv l)) → l.Perm (List.range n) → Q (.ref L) H'
def sp_law_share (K : PySem.W.Frag) : Sp := fun vs H Q _ => ∃ p : Addr, vs = [.ref p] ∧ Pot H p ∧ ∀ v (q : Rat) H', PF p H H' → Is K H' v q → 0 ≤ q → q < 1 → Bd 2100 2100 q → Q v H'
def sp_law_number (K : PySem.W.Frag) : Sp := fun vs H Q _ => ∃ p : Addr, vs = [.ref p] ∧ Pot H p ∧ ∀ v (q : Rat) H', PF p H H' → Is K H' v q → Bd 84 (2 ^ 71) q → Q v H'
def sp_law_gains (K : PySem.W.Frag) : Sp := fun vs H Q _ => ∃ (p : Addr) (n : Nat), vs = [.ref p, .int n] ∧ Pot H p ∧ n ≤ 4 ∧ ∀ v (l : List Rat) H', PF p H H' → Is K H' v l → l.length = n → All 84 (2 ^ 71) l → Q v H'
def sp_law_weights (K : PySem.W.Frag) : Sp := fun vs H Q _ => ∃ (p : Addr) (n : Nat), vs = [.ref p, .int n] ∧ Pot H p ∧ 1 ≤ n ∧ n ≤ 4 ∧ ∀ v (l : List Rat) H', PF p H H' → Is K H' v l → l.length = n → All 84 (2 ^ 71) l → Q v H'
section
variable {P : Program} {w : World} {K : PySem.W.Frag} {mg : Str → Option Value} {base : Heap}
theorem ok_law_shuffled (T : Tx K mg) : FnOk P w K mg base CX0 2 (He.ga K "_law_shuffled") (fdAt K (He.ga K "_law_shuffled")) ["_law_pot_here", "_law_many"] (sp_law_shuffled K) := by
  refine FunD.ok T.F_law_shuffled sc_law_shuffled (fun vs H Q E h => by obtain ⟨p, n, rfl, _⟩ := h; rfl) (fun cdv A outer s H vs Q E hr h => ⟨_, PSs.nox (pss_cons (ps_par (i := 2) (j := 3) rfl sc_law_shuffled.nd rfl rfl (by decide) rfl rfl (pa_cons (pe_listRg rfl (by rfl) T.z_list (prg_1 (by rfl) T.z_range (pv 1))) (pa_cons (pe_lst pa_nil) pa_nil)) (by rfl))
    (pss_cons (ps_for PassesOwn.never rfl (pi_range1 rfl T.z_range (pa_cons (pv 1) pa_nil)) (pg_name (i := 4) sc_law_shuffled.nd rfl (by first | exact Or.inl rfl | exact Or.inr rfl) (Or.inl rfl)) (pss_one (ps_expr (ke_bm K PySem.F.plainAttrs_list PySem.F.slot_list_append PySem.F.type_list_append mt_append (pv 3) (pa_cons (ke_bm K PySem.F.plainAttrs_list PySem.F.slot_list_pop PySem.F.type_list_pop mt_popAt (pv 2) (pa_cons (pe_call (ok_law_take T) (hr.mono (by decide)) (by rfl) T.m_law_take T.F_law_take.kp (b_law_take T) .nil pass0 (pa_cons (pv 0) (pa_cons (pe_callB (kc_len K) (by rfl) T.z_len bt_len (pa_cons (pv 2) pa_nil)) pa_nil))) pa_nil)) pa_nil)))))
    (pss_one (ps_ret (pv 3))))), ?_⟩)
  obtain ⟨p, n, rfl, hp, hn, k⟩ := h
  have a3 : sizeLine = 16777216 := sizeLine_eq
  walk_at "g"
  refine ⟨RgOk.of_le (by omega) (by omega) (by omega) (by omega), fun la hla => ?_⟩
  rw [rg_iv]
  walk_at "g"
  refine ⟨by show 0 ≤ sizeLine; decide, fun fa hfa => ?_⟩
  have s1 := same_new (o := .lst (iv (List.range n))) hla
  have s2 := s1.trans (same_new (o := .lst []) hfa)
  have nl : la ≠ p := hp.ne hla
  have hfa0 : H fa = none := s1.free hfa
  have nf : fa ≠ p := hp.ne hfa0
  have nlf : fa ≠ la := fun z => by
    rw [z, upd_same] at hfa
    cases hfa
  walk_at "g"
  refine ⟨n, rfl, by omega, by omega, for_it walk_range (fun i σ' H' => ∃ (y4 : Option V) (l1 l2 : List Nat), σ' = [some (.ref p), some (.int n), some (.ref la), some (.ref fa), y4] ∧ PF p H H' ∧ H' la = some (.lst (iv l1)) ∧ H' fa = some (.lst (iv l2)) ∧ (l1 ++ l2).Perm (List.range n) ∧ l2.length = i)
    ⟨none, List.range n, [], rfl, .of s2 hp, same_new hfa _ _ upd_same, upd_same, by rw [List.append_nil], rfl⟩ (fun i σ' H' _ _ => trivial) ?_ ?_⟩
  · rintro i x σ' H1 H2 hi ⟨y4, l1, l2, rfl, f1, h1, h2, pm, e2⟩ ⟨rfl, rfl⟩
    have tl : l1.length + l2.length = n := by
      have := pm.length_eq
      rwa [List.length_append, List.length_range] at this
    refine x_name ?_
    walk_at "g"
    refine ⟨.inl ⟨rfl, _, SqL.of h2⟩, ?_⟩
    walk_at "g"
    refine ⟨.inl ⟨rfl, _, SqL.of h1⟩, ?_⟩
    walk_at "g"
    refine x_lenL h1 ?_
    walk_at "g"
    refine ⟨p, l1.length, by rw [iv_len]; rfl, f1.2, by omega, by omega, fun j H3 hj f2 => ?_⟩
    have f3 := f1.trans f2
    have h1' := f2.lst h1 nl
    have h2' := f2.lst h2 nf
    have gj := List.getElem?_eq_getElem hj
    have gj2 : (iv l1)[j]? = some (.int (l1[j] : Nat)) := by
      unfold iv
      rw [List.getElem?_map, gj]
      rfl
    have ej : seqIndex? ((j : Nat) : Int) (iv l1).length = some j := (ixN_seq (ixn (by rw [iv_len]; exact hj))).1
    walk_at "g"
    refine ⟨la, iv l1, (j : Int), j, _, rfl, rfl, h1', by omega, by omega, ej, gj2, ?_⟩
    rw [iv_erase]
    have h2'' : upd H3 la (.lst (iv (l1.eraseIdx j))) fa = some (.lst (iv l2)) := by
      rw [upd_ne nlf]
      exact h2'
    walk_at "g"
    refine ⟨fa, iv l2, _, rfl, rfl, h2'', by rw [iv_len]; omega, ?_⟩
    refine ⟨_, l1.eraseIdx j, l2 ++ [l1[j]], rfl, (f3.mut hla nl).mut hfa0 nf, ?_, ?_, ?_, by rw [List.length_append, e2]; rfl⟩
    · rw [upd_ne (Ne.symm nlf), upd_same]
    · rw [upd_same]
      unfold iv
      rw [List.map_append]
      rfl
    · refine List.Perm.trans ?_ pm
      have q1 : (l1[j] :: l1.eraseIdx j).Perm l1 := erase_perm l1 j hj
      have q2 : (l1.eraseIdx j ++ (l2 ++ [l1[j]])).Perm (l1.eraseIdx j ++ ([l1[j]] ++ l2)) := List.Perm.append_left _ List.perm_append_comm
      refine q2.trans ?_
      have q3 : (l1.eraseIdx j ++ ([l1[j]] ++ l2)).Perm (([l1[j]] ++ l1.eraseIdx j) ++ l2) := by
        rw [← List.append_assoc]
        exact List.Perm.append_right _ List.perm_append_comm
      exact q3.trans (List.Perm.append_right _ q1)
  · rintro σ' H1 ⟨y4, l1, l2, rfl, f1, h1, h2, pm, e2⟩
    have tl : l1.length + l2.length = n := by
      have := pm.length_eq
      rwa [List.length_append, List.length_range] at this
    have : l1 = [] := List.eq_nil_of_length_eq_zero (by omega)
    subst this
    walk_at "g"
    exact k fa l2 _ f1 hfa0 h2 pm
theorem mem_ints {v : V} {l : List Int} (h : v ∈ l.map V.int) : ∃ i ∈ l, v = .int i := by
  obtain ⟨i, hi, rfl⟩ := List.mem_map.mp h
  exact ⟨i, hi, rfl⟩
theorem ok_law_share (T : Tx K mg) : FnOk P w K mg base CX0 3 (He.ga K "_law_share") (fdAt K (He.ga K "_law_share")) ["_law_pot_here"] (sp_law_share K) := by
  refine FunD.ok T.F_law_share sc_law_share (fun vs H Q E h => by obtain ⟨p, rfl, _⟩ := h; rfl) (fun cdv A outer s H vs Q E hr h => ⟨_, PSs.nox (pss_cons (ps_if (pt_cmpR op_eq (pe_call (ok_law_take T) (hr.mono (by decide)) (by rfl) T.m_law_take T.F_law_take.kp (b_law_take T) .nil pass0 (pa_cons (pv 0) (pa_cons pe_int pa_nil))) pe_int (nomark _)) (pss_one (ps_ret (pe_tup (pa_cons pe_int (pa_cons pe_int pa_nil))))) pss_nil)
    (pss_cons (ps_set (i := 1) sc_law_share.nd rfl (by first | exact Or.inl rfl | exact Or.inr rfl) (pe_call (ok_law_pick T) (hr.mono (by decide)) (by rfl) T.m_law_pick T.F_law_pick.kp (b_law_pick T) .nil pass0 (pa_cons (pv 0) (pa_cons (pe_tup (pa_cons pe_int (pa_cons pe_int (pa_cons pe_int (pa_cons pe_int (pa_cons pe_int (pa_cons pe_int (pa_cons pe_int (pa_cons pe_int (pa_cons pe_int (pa_cons pe_int (pa_cons pe_int (pa_cons pe_int pa_nil))))))))))))) pa_nil))))
    (pss_one (ps_ret (pe_call (ok_law_low T) (hr.mono (by decide)) (by rfl) T.m_law_low T.F_law_low.kp (b_law_low T) .nil pass0 (pa_cons (pv 1) (pa_cons (pe_op op_add (pe_op op_add (pv 1) pe_int) (pe_call (ok_law_take T) (hr.mono (by decide)) (by rfl) T.m_law_take T.F_law_take.kp (b_law_take T) .nil pass0 (pa_cons (pv 0) (pa_cons pe_int pa_nil)))) pa_nil))))))), ?_⟩)
  obtain ⟨p, rfl, hp, k⟩ := h
  walk_at "g"
  refine ⟨p, 12, rfl, hp, by decide, by decide, fun j H1 hj f1 => ?_⟩
  walk_at "g"
  refine x_2 (fun z => ?_) (fun z => ?_)
  · walk_at "g"
    refine ⟨by show 2 ≤ sizeLine; decide, fun a ha => ?_⟩
    obtain ⟨s0, s1, s2⟩ := bd_share99
    exact k _ (mkRat (99 : Int) 100) _ (f1.new ha) (is_rat_mk (.of upd_same)) s0 s1 s2
  · walk_at "g"
    refine ⟨by show 12 ≤ sizeLine; decide, fun a ha => ?_⟩
    have f2 := f1.new (o := .tup [.int 1, .int 1, .int 2, .int 3, .int 1, .int 2, .int 1, .int 0, .int 2, .int 3, .int 4, .int 1]) ha
    walk_at "g"
    refine ⟨p, a, _, rfl, f2.2, .of upd_same, (fun z => by cases z), by show 12 ≤ 1000; decide, fun v H3 hv f3 => ?_⟩
    have hv2 : v ∈ ([1, 1, 2, 3, 1, 2, 1, 0, 2, 3, 4, 1] : List Int).map V.int := hv
    obtain ⟨i, hi, rfl⟩ := mem_ints hv2
    have hi4 : 0 ≤ i ∧ i ≤ 4 := by
      have : ∀ x ∈ ([1, 1, 2, 3, 1, 2, 1, 0, 2, 3, 4, 1] : List Int), 0 ≤ x ∧ x ≤ 4 := by decide
      exact this i hi
    have f4 := f2.trans f3
    walk_at "g"
    refine ⟨p, 3, rfl, f3.2, by decide, by decide, fun j2 H4 hj2 f5 => ?_⟩
    walk_at "g"
    refine ⟨_, _, rfl, by omega, ?_, fun v H5 e5 hv5 => ?_⟩
    · exact Nat.lt_of_lt_of_le (show (i + 1 + (j2 : Int)).natAbs < 2 ^ 10 by omega) (Nat.pow_le_pow_right (by decide) (by decide))
    · obtain ⟨s0, s1, s2⟩ := share_ok (t := i.toNat) (e := (i + 1 + (j2 : Int)).natAbs) (by omega) (by omega)
      rw [show ((i.toNat : Nat) : Int) = i by omega] at s0 s1 s2
      exact k v _ _ ((f4.trans f5).add e5) hv5 s0 s1 s2
theorem ok_law_number (T : Tx K mg) : FnOk P w K mg base CX0 2 (He.ga K "_law_number") (fdAt K (He.ga K "_law_number")) ["_law_pot_here"] (sp_law_number K) := by
  refine FunD.ok T.F_law_number sc_law_number (fun vs H Q E h => by obtain ⟨p, rfl, _⟩ := h; rfl) (fun cdv A outer s H vs Q E hr h => ⟨_, PSs.nox (pss_cons (ps_set (i := 1) sc_law_number.nd rfl (by first | exact Or.inl rfl | exact Or.inr rfl) (pe_call (ok_law_take T) (hr.mono (by decide)) (by rfl) T.m_law_take T.F_law_take.kp (b_law_take T) .nil pass0 (pa_cons (pv 0) (pa_cons pe_int pa_nil))))
    (pss_cons (ps_if (pt_cmpR op_eq (pv 1) pe_int (nomark _)) (pss_one (ps_ret (pe_call (ok_law_low T) (hr.mono (by decide)) (by rfl) T.m_law_low T.F_law_low.kp (b_law_low T) .nil pass0 (pa_cons (pe_op op_sub (pe_call (ok_law_take T) (hr.mono (by decide)) (by rfl) T.m_law_take T.F_law_take.kp (b_law_take T) .nil pass0 (pa_cons (pv 0) (pa_cons pe_int pa_nil))) pe_int) (pa_cons (pe_op op_add pe_int (pe_call (ok_law_take T) (hr.mono (by decide)) (by rfl) T.m_law_take T.F_law_take.kp (b_law_take T) .nil pass0 (pa_cons (pv 0) (pa_cons pe_int pa_nil)))) pa_nil))))) pss_nil)
    (pss_cons (ps_if (PW.pt (pw_and (pt_cmpR op_eq (pv 1) pe_int (nomark _)) (pw_and1 (pt_cmpR op_eq (pe_call (ok_law_take T) (hr.mono (by decide)) (by rfl) T.m_law_take T.F_law_take.kp (b_law_take T) .nil pass0 (pa_cons (pv 0) (pa_cons pe_int pa_nil))) pe_int (nomark _))))) (pss_one (ps_ret (pe_call (ok_law_low T) (hr.mono (by decide)) (by rfl) T.m_law_low T.F_law_low.kp (b_law_low T) .nil pass0 (pa_cons (pe_op op_mul (pe_op op_sub (pe_op op_mul (pe_call (ok_law_take T) (hr.mono (by decide)) (by rfl) T.m_law_take T.F_law_take.kp (b_law_take T) .nil pass0 (pa_cons (pv 0) (pa_cons pe_int pa_nil))) pe_int) pe_int) (pe_op op_add (pe_op op_pow pe_int pe_int) (pe_call (ok_law_take T) (hr.mono (by decide)) (by rfl) T.m_law_take T.F_law_take.kp (b_law_take T) .nil pass0 (pa_cons (pv 0) (pa_cons pe_int pa_nil))))) (pa_cons pe_int pa_nil))))) pss_nil)
    (pss_one (ps_ret (pe_tup (pa_cons (pe_op op_sub (pe_call (ok_law_take T) (hr.mono (by decide)) (by rfl) T.m_law_take T.F_law_take.kp (b_law_take T) .nil pass0 (pa_cons (pv 0) (pa_cons pe_int pa_nil))) pe_int) (pa_cons pe_int pa_nil)))))))), ?_⟩)
  obtain ⟨p, rfl, hp, k⟩ := h
  walk_at "g"
  refine ⟨p, 9, rfl, hp, by decide, by decide, fun j H1 hj f1 => ?_⟩
  have last : ∀ (i : Nat) H3, i < 6 → PF p H H3 → ∀ a, H3 a = none → Q (.ref a) (upd H3 a (.tup [.int (i - 2), .int 1])) := fun i H3 hi f3 a ha => by
    refine k _ (((i : Int) - 2 : Int) : Rat) _ (f3.new ha) (int_is _ (.of upd_same)) ?_
    have e : (((i : Int) - 2 : Int) : Rat) = mkRat ((i : Int) - 2) 1 := (Rat.mkRat_one _).symm
    rw [e]
    exact bd_dvd (by decide) 84 (by decide) (by decide) (Nat.le_trans (show ((i : Int) - 2).natAbs * 84 ≤ 2 ^ 20 by omega) (Nat.pow_le_pow_right (by decide) (by decide)))
  walk_at "g"
  refine x_2 (fun z => ?_) (fun z => ?_)
  · walk_at "g"
    refine ⟨p, 13, rfl, f1.2, by decide, by decide, fun i H2 hi f2 => ?_⟩
    walk_at "g"
    refine ⟨p, 3, rfl, f2.2, by decide, by decide, fun e H3 he f3 => ?_⟩
    walk_at "g"
    refine ⟨_, _, rfl, by omega, ?_, fun v H5 e5 hv5 => ?_⟩
    · exact Nat.lt_of_lt_of_le (show (2 + (e : Int)).natAbs < 2 ^ 10 by omega) (Nat.pow_le_pow_right (by decide) (by decide))
    · refine k v _ _ (((f1.trans f2).trans f3).add e5) hv5 ?_
      have e1 : (2 + (e : Int)).natAbs = 2 + e := by omega
      rw [e1]
      have dv : ∀ x : Fin 5, 0 < x.val → x.val * (84 / x.val) = 84 := by decide
      have d84 : 84 / (2 + e) ≤ 84 := Nat.div_le_self ..
      have d0 := dv ⟨2 + e, by omega⟩ (by show 0 < 2 + e; omega)
      have d1 : 0 < 84 / (2 + e) := Nat.div_pos (by omega) (by omega)
      refine bd_dvd (by omega) (84 / (2 + e)) d1 d0 ?_
      refine Nat.le_trans (Nat.mul_le_mul (show ((i : Int) - 6).natAbs ≤ 10 by omega) d84) ?_
      exact Nat.le_trans (show 10 * 84 ≤ 2 ^ 20 by decide) (Nat.pow_le_pow_right (by decide) (by decide))
  · walk_at "g"
    refine x_2 (fun z1 => ?_) (fun z1 => ?_)
    · walk_at "g"
      refine ⟨p, 10, rfl, f1.2, by decide, by decide, fun i H2 hi f2 => ?_⟩
      have f12 := f1.trans f2
      walk_at "g"
      refine x_2 (fun z2 => ?_) (fun z2 => ?_)
      · walk_at "g"
        refine ⟨p, 2, rfl, f2.2, by decide, by decide, fun i H3 hi f3 => ?_⟩
        walk_at "g"
        refine x_i (show CPow 10 20 from ⟨by decide, by decide, by decide⟩) ?_
        walk_at "g"
        refine ⟨p, 1000, rfl, f3.2, by decide, by decide, fun e H4 he f4 => ?_⟩
        walk_at "g"
        refine x_i (cmul_l (by omega) (by omega)) ?_
        walk_at "g"
        refine ⟨_, _, rfl, by omega, ?_, fun v H5 e5 hv5 => ?_⟩
        · exact Nat.lt_of_lt_of_le (show (7 : Int).natAbs < 2 ^ 10 by decide) (Nat.pow_le_pow_right (by decide) (by decide))
        · refine k v _ _ ((f12.trans (f3.trans f4)).add e5) hv5 ?_
          refine bd_dvd (e := 7) (by decide) 12 (by decide) (by decide) ?_
          have p20 : (10 : Int) ^ (20 : Int).toNat = 100000000000000000000 := by decide
          rw [p20, Int.natAbs_mul]
          have b1 : ((i : Int) * 2 - 1).natAbs ≤ 1 := by omega
          have b2 : ((100000000000000000000 : Int) + (e : Int)).natAbs ≤ 100000000000000001000 := by omega
          refine Nat.le_trans (Nat.mul_le_mul_right 12 (Nat.mul_le_mul b1 b2)) (by decide)
      · walk_at "g"
        refine ⟨p, 6, rfl, f2.2, by decide, by decide, fun i H3 hi f3 => ?_⟩
        walk_at "g"
        exact ⟨by show 2 ≤ sizeLine; decide, fun a ha => last i H3 hi (f12.trans f3) a ha⟩
    · walk_at "g"
      refine ⟨p, 6, rfl, f1.2, by decide, by decide, fun i H3 hi f3 => ?_⟩
      walk_at "g"
      exact ⟨by show 2 ≤ sizeLine; decide, fun a ha => last i H3 hi (f1.trans f3) a ha⟩
theorem ok_law_gains (T : Tx K mg) : FnOk P w K mg base CX0 3 (He.ga K "_law_gains") (fdAt K (He.ga K "_law_gains")) ["_law_pot_here", "_law_pays"] (sp_law_gains K) := by
  refine FunD.ok T.F_law_gains sc_law_gains (fun vs H Q E h => by obtain ⟨p, n, rfl, _⟩ := h; rfl) (fun cdv A outer s H vs Q E hr h => ⟨_, PSs.nox (pss_cons (ps_set (i := 2) sc_law_gains.nd rfl (by first | exact Or.inl rfl | exact Or.inr rfl) (pe_lst pa_nil))
    (pss_cons (ps_for PassesOwn.never rfl (pi_range1 rfl T.z_range (pa_cons (pv 1) pa_nil)) (pg_name (i := 3) sc_law_gains.nd rfl (by first | exact Or.inl rfl | exact Or.inr rfl) (Or.inl rfl)) (pss_one (ps_expr (ke_bm K PySem.F.plainAttrs_list PySem.F.slot_list_append PySem.F.type_list_append mt_append (pv 2) (pa_cons (pe_call (ok_law_number T) (hr.mono (by decide)) (by rfl) T.m_law_number T.F_law_number.kp (b_law_number T) .nil pass0 (pa_cons (pv 0) pa_nil)) pa_nil)))))
    (pss_one (ps_ret (pe_callTy (kc_tuple K) (by rfl) T.z_tuple bt_tuple (pa_cons (pv 2) pa_nil)))))), ?_⟩)
  obtain ⟨p, n, rfl, hp, hn, k⟩ := h
  have a3 : sizeLine = 16777216 := sizeLine_eq
  walk_at "g"
  refine ⟨by show 0 ≤ sizeLine; decide, fun fa hfa => ?_⟩
  have nf : fa ≠ p := hp.ne hfa
  walk_at "g"
  refine ⟨n, rfl, by omega, by omega, for_it walk_range (fun i σ' H' => ∃ (y3 : Option V) (us : List V) (l : List Rat), σ' = [some (.ref p), some (.int n), some (.ref fa), y3] ∧ PF p H H' ∧ H' fa = some (.lst us) ∧ IsL K H' us l ∧ l.length = i ∧ All 84 (2 ^ 71) l)
    ⟨none, [], [], rfl, .of (same_new hfa) hp, upd_same, .nil, rfl, fun q hq => by cases hq⟩ (fun i σ' H' _ _ => trivial) ?_ ?_⟩
  · rintro i x σ' H1 H2 hi ⟨y3, us, l, rfl, f1, h1, l1, e1, b1⟩ ⟨rfl, rfl⟩
    have ul := isl_len l1
    refine x_name ?_
    walk_at "g"
    refine ⟨.inl ⟨rfl, _, SqL.of h1⟩, ?_⟩
    walk_at "g"
    refine ⟨p, rfl, f1.2, fun v q H3 f2 hv hb => ?_⟩
    have h2 := f2.lst h1 nf
    walk_at "g"
    refine ⟨fa, us, v, rfl, rfl, h2, by omega, ?_⟩
    have k2 : Kp H3 (upd H3 fa (.lst (us ++ [v]))) := kp_upd h2 id
    refine ⟨_, us ++ [v], l ++ [q], rfl, (f1.trans f2).mut hfa nf, upd_same, isl_app (TpAll.mono ((f2.kp f1.2).trans k2) l1) (isl_one (Tp.mono k2 hv)), by rw [List.length_append, e1]; rfl, fun z hz => ?_⟩
    rcases List.mem_append.mp hz with q1 | q1
    · exact b1 z q1
    · rw [List.mem_singleton.mp q1]; exact hb
  · rintro σ' H1 ⟨y3, us, l, rfl, f1, h1, l1, e1, b1⟩
    walk_at "g"
    refine ⟨fa, us, rfl, .inl ⟨SqL.of h1, fun t o nt oc od => ?_⟩⟩
    walk_at "g"
    have s2 := same_new (o := .frz o (.tup us)) nt
    exact k _ l _ (f1.add s2) (is_list_mk (TupA.frz (K := K) (o := o) upd_same) (TpAll.mono (kp_same s2) l1)) e1 b1
def nzF (q : Rat) : Option Rat := if q.num = 0 then none else some q
theorem rats_lay : ∀ l : List Rat, PyData.canLayAll0 (l.map Enc.enc) = true
  | [] => by simp [PyData.canLayAll0]
  | q :: l => by
    have ih := rats_lay l
    simp [PyData.canLayAll0, ih]
    simp [Enc.enc, PyData.canLay0, PyData.canLayAll0]
theorem rats_deep : ∀ l : List Rat, PyData.depthAll (l.map Enc.enc) ≤ 10
  | [] => by simp [PyData.depthAll]
  | q :: l => by
    have ih := rats_deep l
    have e : (Enc.enc q : PyData).depth ≤ 10 := by simp [Enc.enc, PyData.depth, PyData.depthAll]
    rw [List.map_cons]
    simp only [PyData.depthAll]
    exact Nat.max_le.mpr ⟨e, ih⟩
theorem rats_shaped (l : List Rat) : SeqAt.shaped (.list (l.map Enc.enc)) = true := by
  unfold SeqAt.shaped
  rw [Bool.and_eq_true]
  refine ⟨?_, decide_eq_true ?_⟩
  · simp only [PyData.canLay0]
    exact rats_lay l
  · have := rats_deep l
    simp only [PyData.depth]
    omega
theorem ok_law_weights (T : Tx K mg) : FnOk P w K mg base CX0 4 (He.ga K "_law_weights") (fdAt K (He.ga K "_law_weights")) ["_law_pot_here", "_law_pays"] (sp_law_weights K) := by
  refine FunD.ok T.F_law_weights sc_law_weights (fun vs H Q E h => by obtain ⟨p, n, rfl, _⟩ := h; rfl) (fun cdv A outer s H vs Q E hr h => ⟨_, PSs.nox (pss_cons (ps_set (i := 2) sc_law_weights.nd rfl (by first | exact Or.inl rfl | exact Or.inr rfl) (pe_call (ok_law_gains T) (hr.mono (by decide)) (by rfl) T.m_law_gains T.F_law_gains.kp (b_law_gains T) .nil pass0 (pa_cons (pv 0) (pa_cons (pv 1) pa_nil))))
    (pss_cons (ps_if (PW.pt (pw_and (pt_cmpR (ko_eqD K hr.units) (pe_lc (own := [("_law_each", 3)]) rfl sc_law_weights.nd (kp_sq K true (pv 2)) (blkOk_by (by kernel_rfl)) (fun _ _ _ _ _ => (pg_name (i := 3) sc_law_weights.nd rfl (Or.inl rfl) (Or.inr rfl))) (fun _ _ _ _ _ => (pts_one (pt_cmpR op_ne (pe_ix (ki_tup K) (pv 3) pe_int (fun _ _ => rfl)) pe_int (nomark _)))) (fun _ _ _ _ _ => (pv 3))) (pe_lst pa_nil) (nomark _)) (pw_and1 (pt_cmpR op_gt (pe_call (ok_law_take T) (hr.mono (by decide)) (by rfl) T.m_law_take T.F_law_take.kp (b_law_take T) .nil pass0 (pa_cons (pv 0) (pa_cons pe_int pa_nil))) pe_int (nomark _))))) (pss_one (ps_set (i := 2) sc_law_weights.nd rfl (by first | exact Or.inl rfl | exact Or.inr rfl) (pe_op (ko_cat K) (pe_tup (pa_cons (pe_tup (pa_cons pe_int (pa_cons pe_int pa_nil))) pa_nil)) (pe_slice (ks_tup K) (pv 2) (po_some pe_int) po_none)))) pss_nil)
    (pss_one (ps_ret (pv 2))))), ?_⟩)
  obtain ⟨p, n, rfl, hp, h1, h4, k⟩ := h
  walk_at "g"
  refine ⟨p, n, rfl, hp, h4, fun v l H1 f1 hv lv bv => ?_⟩
  obtain ⟨a, us, rfl, ta, la⟩ := is_list hv
  have e1 := isl_len la
  walk_at "g"
  refine ⟨a, rfl, ⟨us, ta.sqx⟩, x_lc (K := K) (walk_s true) (by omega) (fun H2 e => sqx_same e ta.sqx) (fun i => (l[i]?).bind nzF) ?_ yat_same ?_⟩
  · rintro i x H2 H3 R N hi e ⟨rfl, g1⟩ yes no
    obtain ⟨q, gq, hq⟩ := isl_get la g1
    have hq2 := Tp.mono (kp_same e) hq
    refine x_name ⟨rfl, ?_⟩
    walk_at "g"
    by_cases c : q.num = 0
    · refine x_f (by simp [c]) ?_
      exact no (by rw [gq]; show nzF q = none; unfold nzF; rw [if_pos c]) _ (Same.refl _)
    · refine x_t (by simp [c]) ?_
      walk_at "g"
      exact yes q (by rw [gq]; show nzF q = some q; unfold nzF; rw [if_neg c]) _ _ (Same.refl _) hq2
  · intro L H2 zs nL e2 hL il
    have f2 := f1.add e2
    walk_at "g"
    refine ⟨by show 0 ≤ sizeLine; decide, fun b hb => ?_⟩
    have s3 := same_new (o := .lst []) hb
    have f3 := f2.add s3
    have fin0 : ∀ H4, PF p (upd H2 b (.lst [])) H4 → Q (.ref a) H4 := fun H4 f4 => k _ l H4 (f3.trans f4) (Tp.mono ((kp_same (e2.trans s3)).trans (f4.kp f3.2)) hv) lv bv
    have il2 := TpAll.mono (kp_same s3) il
    generalize hzs : (List.range us.length).filterMap (fun i => (l[i]?).bind nzF) = nz at il il2
    refine ⟨.list (nz.map Enc.enc), .list [], .lst (SqL.of (s3 _ _ hL)) (TpAll.dp il2), .lst (SqL.of upd_same) .nil, rats_shaped nz, rfl, ?_⟩
    refine ⟨_, rfl, ?_⟩
    refine x_2 (fun c => ?_) (fun c => ?_)
    · walk_at "g"
      refine ⟨p, 8, rfl, f3.2, by decide, by decide, fun j H4 hj f4 => ?_⟩
      walk_at "g"
      refine x_2 (fun c2 => ?_) (fun c2 => ?_)
      · walk_at "g"
        refine ⟨by show 2 ≤ sizeLine; decide, fun t1 ht1 => ?_⟩
        walk_at "g"
        refine ⟨by show 1 ≤ sizeLine; decide, fun t2 ht2 => ?_⟩
        have s5 := (same_new (o := .tup [.int 1, .int 1]) ht1).trans (same_new (o := .tup [.ref t1]) ht2)
        have f14 := (f3.trans f4).add s5
        have k14 : Kp H1 (upd (upd H4 t1 (.tup [.int 1, .int 1])) t2 (.tup [.ref t1])) := (kp_same (e2.trans s3)).trans ((f4.kp f3.2).trans (kp_same s5))
        walk_at "g"
        refine x_cutT (ta.mono k14) fun c3 H5 e5 t3 => ?_
        rw [show (1 : Int) = ((1 : Nat) : Int) from rfl, cut_lo us 1 (by omega)] at t3
        refine x_catT (TupA.mono (kp_same e5) (.of upd_same)) t3 (by rw [List.length_drop]; show 1 + _ ≤ _; omega) fun c4 H6 e6 t4 => ?_
        walk_at "g"
        have e56 := e5.trans e6
        refine k _ ((1 : Rat) :: l.drop 1) _ (f14.add e56) (is_list_mk t4 ?_) (by rw [List.length_cons, List.length_drop]; omega) (fun z hz => ?_)
        · refine isl_app (xs := [(1 : Rat)]) (isl_one ?_) ?_
          · exact Tp.mono (kp_same e56) (is_rat_mk (q := 1) (TupA.mono (kp_same (same_new ht2)) (.of upd_same)))
          · show TpAll _ _ _ ((l.drop 1).map Enc.enc)
            rw [List.map_drop]
            exact TpAll.drop 1 (TpAll.mono (k14.trans (kp_same e56)) la)
        · rcases List.mem_cons.mp hz with q1 | q1
          · rw [q1]
            have e1 : (1 : Rat) = mkRat 1 1 := rfl
            rw [e1]
            exact bd_dvd (by decide) 84 (by decide) (by decide) (Nat.le_trans (show (1 : Int).natAbs * 84 ≤ 2 ^ 20 by decide) (Nat.pow_le_pow_right (by decide) (by decide)))
          · exact bv z (List.mem_of_mem_drop q1)
      · walk_at "g"
        exact fin0 _ f4
    · walk_at "g"
      exact fin0 _ (.of (Same.refl _) f3.2)
end
end K66

/-! L2b: lots, odds, chances (own work) -/
namespace K66
open PySem PySem.Spec PyProof.Rows L2
local macro_rules | `(tactic| walk_at "kp") => `(tactic| first
  | exact Kp.refl _
  | assumption
  | (refine Kp.trans (by assumption) ?_; walk_at "kp")
  | (refine Kp.trans (kp_same (by assumption)) ?_; walk_at "kp"))
local macro_rules | `(tactic| walk_at "is") => `(tactic| first
  | assumption
  | (refine Tp.mono ?_ (by assumption); walk_at "kp"))
local macro_rules | `(tactic| walk_at "x") => `(tactic| with_reducible first
  | refine x_seq ?_ | refine x_ret ?_ | refine x_asg ?_ | refine x_ifs ?_ | refine x_drop ?_ | refine x_next ?_ | refine x_call ?_ | refine x_cb ?_ | refine x_cons ?_ | refine x_nil ?_
  | refine x_op ?_ | refine x_un ?_ | refine x_c ?_ | refine x_i0 ?_ | refine x_u ?_ | refine x_eqI ?_ | refine x_neI ?_ | refine x_test ?_ | refine x_tb ?_ | refine x_bl ?_ | refine x_not ?_
  | refine x_and ?_ | refine x_or ?_ | refine x_andV ?_ | refine x_orV ?_ | refine x_notV ?_ | refine x_if ?_ | refine x_tup ?_ | refine x_lst ?_ | refine x_name ?_ | refine x_gcd ?_ | refine x_for ?_ | refine x_par ?_ | refine x_par3 ?_ | refine x_two ?_ | refine x_three ?_ | refine x_lcd ?_ | refine x_yes ?_ | refine x_isq ?_ | refine x_izip ?_ | refine x_ienum ?_ | refine x_irng ?_ | refine x_kt ?_ | refine x_isiI ?_ | refine x_isiB ?_ | refine x_chain ?_ | refine x_sl ?_ | refine x_part ?_ | refine x_nopart ?_ | refine x_isint ?_ | refine x_bm ?_ | refine x_tix ?_ )
local macro_rules | `(tactic| walk_at "v") => `(tactic| ((with_reducible refine x_var (v := ?kv) ?k1 ?_); (case k1 => exact rfl)))
local macro_rules | `(tactic| walk_at "n") => `(tactic| first
  | ((with_reducible refine x_num (q := ?kv) ?k1 ?_); (case k1 => walk_at "is"))
  | ((with_reducible refine x_den (q := ?kv) ?k1 ?_); (case k1 => walk_at "is")))
local macro_rules | `(tactic| walk_at "m") => `(tactic| ((with_reducible refine x_i ?k1 ?_); (case k1 => first | exact mw_nd (by assumption) (by assumption) | exact mw_nn (by assumption) (by assumption) | exact mw_dd (by assumption) (by assumption))))
local macro_rules | `(tactic| walk_at "tu") => `(tactic| first
  | assumption
  | (refine TupA.mono ?_ (by assumption); walk_at "kp"))
local macro_rules | `(tactic| walk_at "i") => `(tactic| first
  | ((with_reducible refine x_ix0 (us := ?ku) (v := ?kv) ?k1 ?k2 ?_); (case k1 => walk_at "tu"); (case k2 => exact rfl))
  | ((with_reducible refine x_ix1 (us := ?ku) (v := ?kv) ?k1 ?k2 ?_); (case k1 => walk_at "tu"); (case k2 => exact rfl))
  | ((with_reducible refine x_ix2 (us := ?ku) (v := ?kv) ?k1 ?k2 ?_); (case k1 => walk_at "tu"); (case k2 => exact rfl)))
local macro_rules | `(tactic| walk_at "ht") => `(tactic| refine x_t (by first | rfl | (simp; done) | (simp; omega)) ?_)
local macro_rules | `(tactic| walk_at "hf") => `(tactic| refine x_f (by first | rfl | (simp; done) | (simp; omega)) ?_)
local macro_rules | `(tactic| walk_at "g") => `(tactic| repeat (first | walk_at "x" | walk_at "v" | walk_at "n" | walk_at "i" | walk_at "m" | ((with_reducible refine x_f ?k1 ?_); (case k1 => exact rfl)) | ((with_reducible refine x_t ?k1 ?_); (case k1 => exact rfl))))

local macro_rules | `(tactic| walk_at "y") => `(tactic| with_reducible first
  | refine x_int1 ?_ | refine x_absI ?_ | refine x_dvm ?_ | refine x_lrg ?_ | refine x_rg1 ?_ | refine x_gsub ?_ | refine x_max2 ?_ | refine x_min2 ?_ | refine x_w0 ?_)
local macro_rules | `(tactic| walk_at "o") => `(tactic| ((with_reducible refine x_i ?k1 ?_); (case k1 => first | exact cmul_l (by decide) (by decide) | exact cmul_r (by decide) (by decide) | exact cmod_p (by decide) | exact cdiv_p (by decide) (by decide))))
local macro_rules | `(tactic| walk_at "g") => `(tactic| repeat (first | walk_at "x" | walk_at "v" | walk_at "y" | walk_at "n" | walk_at "i" | walk_at "m" | walk_at "o" | ((with_reducible refine x_f ?k1 ?_); (case k1 => exact rfl)) | ((with_reducible refine x_t ?k1 ?_); (case k1 => exact rfl))))

theorem chG_some {t : Nat} {p : Nat × Nat} {c : Nat × Rat} (h : chG t p = some c) : 0 < p.2 ∧ c = (p.1, mkRat (p.2 : Int) t) := by
  unfold chG at h
  split at h
  · rename_i q
    exact ⟨q, (Option.some.inj h).symm⟩
  · cases h
theorem zip_mem {a b : List Nat} {p : Nat × Nat} (h : p ∈ a.zip b) : p.1 ∈ a ∧ p.2 ∈ b := List.of_mem_zip (by cases p; exact h)
theorem ch_ok {n : Nat} {told so : List Nat} (hl : told.length = so.length) (h1 : told.Pairwise (· < ·)) (h2 : ∀ s ∈ told, s < n) (hk : told.length ≤ 3) (h3 : ∀ k ∈ so, k ≤ 3) (hp : 0 < so.sum) :
    ChOk n (chL told so) ∧ (∀ c ∈ chL told so, Bd 2520 2520 c.2) ∧ (chL told so).length ≤ 3 := by
  have s9 : so.sum ≤ 9 := by
    have := sum_le h3
    omega
  have mem : ∀ c ∈ chL told so, ∃ s k, s ∈ told ∧ k ∈ so ∧ 0 < k ∧ c = (s, mkRat (k : Int) so.sum) := fun c hc => by
    obtain ⟨p, hp1, hp2⟩ := List.mem_filterMap.mp hc
    obtain ⟨q1, q2⟩ := chG_some hp2
    obtain ⟨m1, m2⟩ := zip_mem hp1
    exact ⟨p.1, p.2, m1, m2, q1, q2⟩
  have bd : ∀ c ∈ chL told so, Bd 2520 2520 c.2 := fun c hc => by
    obtain ⟨s, k, m1, m2, k0, rfl⟩ := mem c hc
    exact bd_part hp (dvd2520 hp (by omega)) (by decide) (le_sum m2)
  have len : (chL told so).length ≤ 3 := by
    refine Nat.le_trans (List.length_filterMap_le _ _) ?_
    rw [List.length_zip]
    omega
  have pw : (chL told so).Pairwise (fun a b => a.1 < b.1) := by
    unfold chL
    rw [List.pairwise_filterMap]
    have z : (told.zip so).Pairwise (fun a b => a.1 < b.1) := by
      have := zip_fst told so hl
      rw [← this, List.pairwise_map] at h1
      exact h1
    refine z.imp ?_
    intro a b hab c hc d hd
    obtain ⟨_, rfl⟩ := chG_some hc
    obtain ⟨_, rfl⟩ := chG_some hd
    exact hab
  refine ⟨⟨fun i p q g1 g2 => ?_, fun p hpm => ?_, fun p hpm => ?_, ?_, ?_, Nat.le_trans len (by decide)⟩, bd, len⟩
  · obtain ⟨i1, e1⟩ := List.getElem?_eq_some_iff.mp g1
    obtain ⟨i2, e2⟩ := List.getElem?_eq_some_iff.mp g2
    have := List.pairwise_iff_getElem.mp pw i (i + 1) i1 i2 (by omega)
    rw [e1, e2] at this
    exact this
  · obtain ⟨s, k, m1, m2, k0, rfl⟩ := mem p hpm
    exact h2 s m1
  · obtain ⟨s, k, m1, m2, k0, rfl⟩ := mem p hpm
    exact mk_pos hp k0
  · unfold chL
    rw [ch_sum hp, zip_snd told so hl, mk_self hp]
  · refine ⟨2520, 2520, ⟨by decide, Nat.lt_of_lt_of_le (show 2520 < 2 ^ 100 by decide) (Nat.pow_le_pow_right (by decide) (by decide))⟩, ⟨?_, Nat.lt_of_lt_of_le (show 2520 < 2 ^ 100 by decide) (Nat.pow_le_pow_right (by decide) (by decide))⟩, fun x hx => ?_⟩
    · rw [List.length_map]
      exact Nat.lt_of_le_of_lt (Nat.mul_le_mul_right _ len) (Nat.lt_of_lt_of_le (show 3 * 2520 < 2 ^ 100 by decide) (Nat.pow_le_pow_right (by decide) (by decide)))
    · obtain ⟨c, hc, rfl⟩ := List.mem_map.mp hx
      exact bd c hc
theorem cast_sum : ∀ l : List Nat, (l.map fun k : Nat => (k : Int)).sum = ((l.sum : Nat) : Int)
  | [] => rfl
  | x :: r => by rw [List.map_cons, List.sum_cons, List.sum_cons, cast_sum r, Int.natCast_add]
theorem told_ok {l : List Nat} {ns : List Int} {n c : Nat} (pm : l.Perm (List.range n)) (h : ns.Perm ((l.take c).map fun k : Nat => (k : Int))) (pw : ns.Pairwise (· ≤ ·)) :
    ∃ told : List Nat, ns.map V.int = iv told ∧ told.length = (l.take c).length ∧ told.Pairwise (· < ·) ∧ ∀ s ∈ told, s < n := by
  have nn : ∀ i ∈ ns, ∃ k ∈ l, i = ((k : Nat) : Int) := fun i hi => by
    obtain ⟨k, hk, e⟩ := List.mem_map.mp (h.mem_iff.mp hi)
    exact ⟨k, List.mem_of_mem_take hk, e.symm⟩
  have e1 : (ns.map Int.toNat).map (fun k : Nat => (k : Int)) = ns := by
    rw [List.map_map]
    have : ∀ i ∈ ns, ((fun k : Nat => (k : Int)) ∘ Int.toNat) i = id i := fun i hi => by
      obtain ⟨k, _, rfl⟩ := nn i hi
      rfl
    rw [List.map_congr_left this, List.map_id]
  have nd : ns.Nodup := by
    rw [h.nodup_iff]
    have n1 : l.Nodup := pm.nodup_iff.mpr List.nodup_range
    have n2 : (l.take c).Nodup := (List.take_sublist c l).nodup n1
    unfold List.Nodup at n2 ⊢
    rw [List.pairwise_map]
    exact n2.imp fun q z => q (by omega)
  refine ⟨ns.map Int.toNat, ?_, ?_, ?_, fun s hs => ?_⟩
  · rw [iv_cast, e1]
  · rw [List.length_map, h.length_eq, List.length_map]
  · rw [List.pairwise_map]
    unfold List.Nodup at nd
    have both := pw.and nd
    refine List.Pairwise.imp_of_mem ?_ both
    intro a b ha hb q
    obtain ⟨k1, _, rfl⟩ := nn a ha
    obtain ⟨k2, _, rfl⟩ := nn b hb
    have := q.1
    have := q.2
    show (k1 : Int).toNat < (k2 : Int).toNat
    omega
  · obtain ⟨i, hi, rfl⟩ := List.mem_map.mp hs
    obtain ⟨k, hk, rfl⟩ := nn i hi
    have := List.mem_range.mp (pm.mem_iff.mp hk)
    rw [Int.toNat_natCast]
    exact this
def sp_law_lot (K : PySem.W.Frag) : Sp := fun vs H Q _ => ∃ (p : Addr) (n : Nat), vs = [.ref p, .int n] ∧ Pot H p ∧ 1 ≤ n ∧ n ≤ 4 ∧ ∀ L (l : List Nat) H', PF p H H' → H L = none → H' L = some (.lst (iv l)) → l.length = n → (∀ k ∈ l, k ≤ 3) → 0 < l.sum → Q (.ref L) H'
def sp_law_odds (K : PySem.W.Frag) : Sp := fun vs H Q _ => ∃ (p : Addr) (n : Nat), vs = [.ref p, .int n] ∧ Pot H p ∧ 1 ≤ n ∧ n ≤ 4 ∧ ∀ v (l : List Rat) H', PF p H H' → Is K H' v l → l.length = n → (∀ q ∈ l, 0 ≤ q) → All 27720 27720 l → rsum l = 1 → Q v H'
def sp_law_is_whole (K : PySem.W.Frag) : Sp := fun vs H Q _ => ∃ i : Int, vs = [.int i] ∧ Q (.bl true) H
def sp_law_is_fraction (K : PySem.W.Frag) : Sp := fun vs H Q _ => ∃ (x : V) (q : Rat), vs = [x] ∧ Is K H x q ∧ Sz q ∧ ∀ H', Same H H' → Q (.bl true) H'
def sp_law_chances (K : PySem.W.Frag) : Sp := fun vs H Q _ => ∃ (p : Addr) (n : Nat), vs = [.ref p, .int n, .int 3] ∧ Pot H p ∧ 1 ≤ n ∧ n ≤ 8 ∧ ∀ v (ch : Ch) H', PF p H H' → Is K H' v ch → ChOk n ch → (∀ c ∈ ch, Bd 2520 2520 c.2) → ch.length ≤ 3 → Q v H'
section
variable {P : Program} {w : World} {K : PySem.W.Frag} {mg : Str → Option Value} {base : Heap}
theorem ok_law_lot (T : Tx K mg) : FnOk P w K mg base CX0 2 (He.ga K "_law_lot") (fdAt K (He.ga K "_law_lot")) ["_law_pot_here", "_law_many"] (sp_law_lot K) := by
  refine FunD.ok T.F_law_lot sc_law_lot (fun vs H Q E h => by obtain ⟨p, n, rfl, _⟩ := h; rfl) (fun cdv A outer s H vs Q E hr h => ⟨_, PSs.nox (pss_cons (ps_set (i := 2) sc_law_lot.nd rfl (by first | exact Or.inl rfl | exact Or.inr rfl) (pe_lst pa_nil))
    (pss_cons (ps_for PassesOwn.never rfl (pi_range1 rfl T.z_range (pa_cons (pv 1) pa_nil)) (pg_name (i := 3) sc_law_lot.nd rfl (by first | exact Or.inl rfl | exact Or.inr rfl) (Or.inl rfl)) (pss_one (ps_expr (ke_bm K PySem.F.plainAttrs_list PySem.F.slot_list_append PySem.F.type_list_append mt_append (pv 2) (pa_cons (pe_ix (ki_tup K) (pe_tup (pa_cons pe_int (pa_cons pe_int (pa_cons pe_int (pa_cons pe_int (pa_cons pe_int (pa_cons pe_int pa_nil))))))) (pe_call (ok_law_take T) (hr.mono (by decide)) (by rfl) T.m_law_take T.F_law_take.kp (b_law_take T) .nil pass0 (pa_cons (pv 0) (pa_cons pe_int pa_nil))) (fun _ _ => rfl)) pa_nil)))))
    (pss_cons (ps_if (pt_cmpR op_eq (pe_callB (kc_max K rfl) (by rfl) T.z_max bt_max (pa_cons (pv 2) pa_nil)) pe_int (nomark _)) (pss_one (ps_asg pe_int (pg_sub (pv 2) (pe_call (ok_law_take T) (hr.mono (by decide)) (by rfl) T.m_law_take T.F_law_take.kp (b_law_take T) .nil pass0 (pa_cons (pv 0) (pa_cons (pv 1) pa_nil))) set_list))) pss_nil)
    (pss_one (ps_ret (pv 2)))))), ?_⟩)
  obtain ⟨p, n, rfl, hp, h1, h4, k⟩ := h
  have a3 : sizeLine = 16777216 := sizeLine_eq
  walk_at "g"
  refine ⟨by show 0 ≤ sizeLine; decide, fun fa hfa => ?_⟩
  have nf : fa ≠ p := hp.ne hfa
  walk_at "g"
  refine ⟨n, rfl, by omega, by omega, for_it walk_range (fun i σ' H' => ∃ (y3 : Option V) (l : List Nat), σ' = [some (.ref p), some (.int n), some (.ref fa), y3] ∧ PF p H H' ∧ H' fa = some (.lst (iv l)) ∧ l.length = i ∧ ∀ k ∈ l, k ≤ 3)
    ⟨none, [], rfl, .of (same_new hfa) hp, upd_same, rfl, fun q hq => by cases hq⟩ (fun i σ' H' _ _ => trivial) ?_ ?_⟩
  · rintro i x σ' H1 H2 hi ⟨y3, l, rfl, f1, g1, e1, b1⟩ ⟨rfl, rfl⟩
    refine x_name ?_
    walk_at "g"
    refine ⟨.inl ⟨rfl, _, SqL.of g1⟩, ?_⟩
    walk_at "g"
    refine ⟨by show 6 ≤ sizeLine; decide, fun t ht => ?_⟩
    have s2 := same_new (o := .tup [.int 0, .int 1, .int 1, .int 2, .int 0, .int 3]) ht
    have f2 := f1.add s2
    walk_at "g"
    refine ⟨p, 6, rfl, f2.2, by decide, by decide, fun j H3 hj f3 => ?_⟩
    have f4 := f2.trans f3
    have tt : TupA K H3 t [.int 0, .int 1, .int 1, .int 2, .int 0, .int 3] := TupA.mono (f3.kp f2.2) (.of upd_same)
    have gj : ∃ c : Nat, c ≤ 3 ∧ ([.int 0, .int 1, .int 1, .int 2, .int 0, .int 3] : List V)[j]? = some (.int c) := by
      match j, hj with
      | 0, _ => exact ⟨0, by decide, rfl⟩
      | 1, _ => exact ⟨1, by decide, rfl⟩
      | 2, _ => exact ⟨1, by decide, rfl⟩
      | 3, _ => exact ⟨2, by decide, rfl⟩
      | 4, _ => exact ⟨0, by decide, rfl⟩
      | 5, _ => exact ⟨3, by decide, rfl⟩
    obtain ⟨c, hc, gj⟩ := gj
    refine ⟨t, _, j, _, rfl, rfl, tt, atI_nat gj, ?_⟩
    walk_at "g"
    have g3 := f3.lst (s2 _ _ g1) nf
    refine ⟨fa, iv l, _, rfl, rfl, g3, by rw [iv_len]; omega, ?_⟩
    refine ⟨_, l ++ [c], rfl, f4.mut hfa nf, ?_, by rw [List.length_append, e1]; rfl, fun z hz => ?_⟩
    · rw [upd_same]
      unfold iv
      rw [List.map_append]
      rfl
    · rcases List.mem_append.mp hz with q1 | q1
      · exact b1 z q1
      · rw [List.mem_singleton.mp q1]; exact hc
  · rintro σ' H1 ⟨y3, l, rfl, f1, g1, e1, b1⟩
    rw [Int.toNat_natCast] at e1
    walk_at "g"
    refine ⟨fa, l.map fun k : Nat => (k : Int), rfl, sq_iv g1, by rw [List.length_map]; omega, fun m hm hall => ?_⟩
    walk_at "g"
    refine x_2 (fun z => ?_) (fun z => ?_)
    · walk_at "g"
      refine ⟨p, n, rfl, f1.2, by omega, by omega, fun j H2 hj f2 => ?_⟩
      have g2 := f2.lst g1 nf
      refine ⟨fa, iv l, j, j, rfl, rfl, g2, ixn (by rw [iv_len]; omega), ?_⟩
      have es : (iv l).set j (.int 1) = iv (l.set j 1) := by
        unfold iv
        rw [List.map_set]
        rfl
      rw [es]
      walk_at "g"
      refine k fa (l.set j 1) _ ((f1.trans f2).mut hfa nf) hfa upd_same (by rw [List.length_set]; exact e1) (fun q hq => ?_) ?_
      · rcases List.mem_or_eq_of_mem_set hq with e | e
        · exact b1 q e
        · omega
      · have : 1 ∈ l.set j 1 := List.mem_set (by omega) 1
        have := le_sum this
        omega
    · walk_at "g"
      refine k fa l _ f1 hfa g1 e1 b1 ?_
      obtain ⟨c, hc, rfl⟩ := List.mem_map.mp hm
      have := le_sum hc
      have z := of_decide_eq_false z
      omega
theorem ok_law_odds (T : Tx K mg) : FnOk P w K mg base CX0 3 (He.ga K "_law_odds") (fdAt K (He.ga K "_law_odds")) ["_law_pot_here", "_law_many"] (sp_law_odds K) := by
  refine FunD.ok T.F_law_odds sc_law_odds (fun vs H Q E h => by obtain ⟨p, n, rfl, _⟩ := h; rfl) (fun cdv A outer s H vs Q E hr h => ⟨_, PSs.nox (pss_cons (ps_if (pt_cmpR op_eq (pe_call (ok_law_take T) (hr.mono (by decide)) (by rfl) T.m_law_take T.F_law_take.kp (b_law_take T) .nil pass0 (pa_cons (pv 0) (pa_cons pe_int pa_nil))) pe_int (nomark _)) (pss_cons (ps_set (i := 2) sc_law_odds.nd rfl (by first | exact Or.inl rfl | exact Or.inr rfl) (pe_call (ok_law_take T) (hr.mono (by decide)) (by rfl) T.m_law_take T.F_law_take.kp (b_law_take T) .nil pass0 (pa_cons (pv 0) (pa_cons (pv 1) pa_nil))))
    (pss_one (ps_ret (pe_callTy (kc_tuple K) (by rfl) T.z_tuple bt_tuple (pa_cons (pe_lc (own := [("_law_at", 6)]) rfl sc_law_odds.nd (pi_range1 rfl T.z_range (pa_cons (pv 1) pa_nil)) (blkOk_by (by kernel_rfl)) (fun _ _ _ _ _ => (pg_name (i := 6) sc_law_odds.nd rfl (Or.inl rfl) (Or.inr rfl))) (fun _ _ _ _ _ => pts_nil) (fun _ _ _ _ _ => (pe_tup (pa_cons (pe_callTy kc_int (by rfl) T.z_int bt_int (pa_cons (pe_cmpR op_eq (pv 6) (pv 2) (nomark _)) pa_nil)) (pa_cons pe_int pa_nil))))) pa_nil))))) pss_nil)
    (pss_cons (ps_set (i := 3) sc_law_odds.nd rfl (by first | exact Or.inl rfl | exact Or.inr rfl) (pe_call (ok_law_lot T) (hr.mono (by decide)) (by rfl) T.m_law_lot T.F_law_lot.kp (b_law_lot T) .nil pass0 (pa_cons (pv 0) (pa_cons (pv 1) pa_nil))))
    (pss_cons (ps_set (i := 4) sc_law_odds.nd rfl (by first | exact Or.inl rfl | exact Or.inr rfl) (pe_callB (kc_sum K rfl) (by rfl) T.z_sum bt_sum (pa_cons (pv 3) pa_nil)))
    (pss_one (ps_ret (pe_callTy (kc_tuple K) (by rfl) T.z_tuple bt_tuple (pa_cons (pe_lc (own := [("_law_each", 5)]) rfl sc_law_odds.nd (kp_sq K false (pv 3)) (blkOk_by (by kernel_rfl)) (fun _ _ _ _ _ => (pg_name (i := 5) sc_law_odds.nd rfl (Or.inl rfl) (Or.inr rfl))) (fun _ _ _ _ _ => pts_nil) (fun _ _ _ _ _ => (pe_call (ok_law_low T) (hr.mono (by decide)) (by rfl) T.m_law_low T.F_law_low.kp (b_law_low T) .nil pass0 (pa_cons (pv 5) (pa_cons (pv 4) pa_nil))))) pa_nil))))))), ?_⟩)
  obtain ⟨p, n, rfl, hp, h1, h4, k⟩ := h
  walk_at "g"
  refine ⟨p, 2, rfl, hp, by decide, by decide, fun j H1 hj f1 => ?_⟩
  walk_at "g"
  refine x_2 (fun z => ?_) (fun z => ?_)
  · walk_at "g"
    refine ⟨p, n, rfl, f1.2, by omega, by omega, fun j2 H2 hj2 f2 => ?_⟩
    have f12 := f1.trans f2
    walk_at "g"
    refine ⟨n, rfl, by omega, by omega, x_lcL (K := K) ((List.range n).map fun i => if i = j2 then (1 : Rat) else 0) walk_range (by rw [List.length_map, List.length_range]; rfl) (by omega) (fun _ _ => trivial) yfn_same ?_ ?_⟩
    · rintro i x y H3 H4 R N gy e ⟨rfl, rfl⟩ done
      rw [List.getElem?_map] at gy
      obtain ⟨i2, gi, rfl⟩ := Option.map_eq_some_iff.mp gy
      have ei : i = i2 := by
        rw [List.getElem?_eq_some_iff] at gi
        obtain ⟨_, z⟩ := gi
        simpa using z
      subst ei
      refine x_name ⟨rfl, ?_⟩
      walk_at "g"
      refine x_int1b ?_
      walk_at "g"
      refine ⟨by show 2 ≤ sizeLine; decide, fun t ht => ?_⟩
      refine done _ _ (same_new ht) ?_
      by_cases c : i = j2
      · rw [if_pos c]
        refine is_rat_mk (q := 1) (.of ?_)
        rw [upd_same]
        have : decide ((0 : Int) + (i : Nat) = (j2 : Nat)) = true := decide_eq_true (by omega)
        rw [this]
        rfl
      · rw [if_neg c]
        refine is_rat_mk (q := 0) (.of ?_)
        rw [upd_same]
        have : decide ((0 : Int) + (i : Nat) = (j2 : Nat)) = false := decide_eq_false (by omega)
        rw [this]
        rfl
    · intro L H3 zs nL e3 hL il
      walk_at "g"
      refine ⟨L, zs, rfl, .inl ⟨SqL.of hL, fun t o nt oc od => ?_⟩⟩
      have s4 := same_new (o := .frz o (.tup zs)) nt
      walk_at "g"
      refine k _ _ _ (f12.add (e3.trans s4)) (is_list_mk (TupA.frz (K := K) (o := o) upd_same) (TpAll.mono (kp_same s4) il)) (by rw [List.length_map, List.length_range]) (fun q hq => ?_) (fun q hq => ?_) (odds_one hj2)
      · obtain ⟨i, _, rfl⟩ := List.mem_map.mp hq
        by_cases c : i = j2
        · rw [if_pos c]; decide
        · rw [if_neg c]; decide
      · obtain ⟨i, _, rfl⟩ := List.mem_map.mp hq
        by_cases c : i = j2
        · rw [if_pos c]
          exact bd_part (k := 1) (t := 1) (by decide) (by decide) (by decide) (by decide)
        · rw [if_neg c]
          exact Bd.zero (by decide) _
  · walk_at "g"
    refine ⟨p, n, rfl, f1.2, h1, h4, fun L l H2 f2 nL hL el bl sl => ?_⟩
    have f12 := f1.trans f2
    have il := iv_isl (K := K) (H := H2) l
    have sL : SqX K false H2 L (iv l) := SqL.of hL
    have s12 : l.sum ≤ 12 := by
      have := sum_le bl
      omega
    walk_at "g"
    refine ⟨L, l.map fun k : Nat => (k : Int), rfl, sq_iv hL, ?_⟩
    rw [cast_sum]
    walk_at "g"
    refine ⟨L, rfl, ⟨iv l, sL⟩, x_lcL (K := K) (l.map fun k : Nat => mkRat (k : Int) l.sum) (walk_s false) (by rw [List.length_map, iv_len]) (by rw [iv_len]; omega) (fun H3 e => sqx_same e sL) yat_same ?_ ?_⟩
    · rintro i x y H3 H4 R N gy e ⟨rfl, g1⟩ done
      obtain ⟨c, gc, hc⟩ := isl_get il g1
      rw [List.getElem?_map, gc] at gy
      cases gy
      cases is_nat hc
      refine x_name ⟨rfl, ?_⟩
      walk_at "g"
      refine ⟨_, _, rfl, by omega, ?_, fun v H5 e5 hv => done _ _ e5 hv⟩
      rw [Int.natAbs_natCast]
      exact Nat.lt_of_lt_of_le (show l.sum < 2 ^ 10 by omega) (Nat.pow_le_pow_right (by decide) (by decide))
    · intro L3 H3 zs nL3 e3 hL3 il3
      walk_at "g"
      refine ⟨L3, zs, rfl, .inl ⟨SqL.of hL3, fun t o nt oc od => ?_⟩⟩
      have s4 := same_new (o := .frz o (.tup zs)) nt
      walk_at "g"
      refine k _ _ _ (f12.add (e3.trans s4)) (is_list_mk (TupA.frz (K := K) (o := o) upd_same) (TpAll.mono (kp_same s4) il3)) (by rw [List.length_map]; exact el) (fun q hq => ?_) (fun q hq => ?_) ?_
      · obtain ⟨i, _, rfl⟩ := List.mem_map.mp hq
        exact mk_nn sl
      · obtain ⟨i, hi, rfl⟩ := List.mem_map.mp hq
        exact bd_part sl (dvd27720 sl s12) (by decide) (le_sum hi)
      · rw [mk_sum sl, mk_self sl]
theorem ok_law_is_whole (T : Tx K mg) : FnOk P w K mg base CX0 1 (He.ga K "_law_is_whole") (fdAt K (He.ga K "_law_is_whole")) ["_law_value"] (sp_law_is_whole K) := by
  refine FunD.ok T.F_law_is_whole sc_law_is_whole (fun vs H Q E h => by obtain ⟨i, rfl, _⟩ := h; rfl) (fun cdv A outer s H vs Q E hr h => ⟨_, PSs.nox (pss_one (ps_ret (pe_and (pe_callB (kc_isi K) (by rfl) T.z_isinstance bt_isinstance (pa_cons (pv 0) (pa_cons (pe_bltn (v := .ty "int") (by rfl) T.z_int bt_int rfl) pa_nil))) (pe_one (pe_not (pe_callB (kc_isi K) (by rfl) T.z_isinstance bt_isinstance (pa_cons (pv 0) (pa_cons (pe_bltn (v := .ty "bool") (by rfl) T.z_bool bt_bool rfl) pa_nil)))))))), ?_⟩)
  obtain ⟨i, rfl, k⟩ := h
  walk_at "g"
  exact k
theorem ok_law_is_fraction (T : Tx K mg) : FnOk P w K mg base CX0 2 (He.ga K "_law_is_fraction") (fdAt K (He.ga K "_law_is_fraction")) ["_law_value"] (sp_law_is_fraction K) := by
  refine FunD.ok T.F_law_is_fraction sc_law_is_fraction (fun vs H Q E h => by obtain ⟨x, q, rfl, _⟩ := h; rfl) (fun cdv A outer s H vs Q E hr h => ⟨_, PSs.nox (pss_cons (ps_if (PW.pt (pw_or (pt_not (pt_val (pe_callB (kc_isi K) (by rfl) T.z_isinstance bt_isinstance (pa_cons (pv 0) (pa_cons (pe_bltn (v := .ty "tuple") (by rfl) T.z_tuple bt_tuple rfl) pa_nil))))) (pw_or1 (pt_cmpR op_ne (pe_callB (kc_len K) (by rfl) T.z_len bt_len (pa_cons (pv 0) pa_nil)) pe_int (nomark _))))) (pss_one (ps_ret pe_bl)) pss_nil)
    (pss_cons (ps_if (PW.pt (pw_or (pt_not (pt_val (pe_call (ok_law_is_whole T) (hr.mono (by decide)) (by rfl) T.m_law_is_whole T.F_law_is_whole.kp (b_law_is_whole T) .nil pass0 (pa_cons (pe_ix (ki_tup K) (pv 0) pe_int (fun _ _ => rfl)) pa_nil)))) (pw_or (pt_not (pt_val (pe_call (ok_law_is_whole T) (hr.mono (by decide)) (by rfl) T.m_law_is_whole T.F_law_is_whole.kp (b_law_is_whole T) .nil pass0 (pa_cons (pe_ix (ki_tup K) (pv 0) pe_int (fun _ _ => rfl)) pa_nil)))) (pw_or1 (pt_cmpR op_le (pe_ix (ki_tup K) (pv 0) pe_int (fun _ _ => rfl)) pe_int (nomark _)))))) (pss_one (ps_ret pe_bl)) pss_nil)
    (pss_one (ps_ret (pe_cmpR (ko_eqD K hr.units) (pe_call (ok_law_low T) (hr.mono (by decide)) (by rfl) T.m_law_low T.F_law_low.kp (b_law_low T) .nil pass0 (pa_cons (pe_ix (ki_tup K) (pv 0) pe_int (fun _ _ => rfl)) (pa_cons (pe_ix (ki_tup K) (pv 0) pe_int (fun _ _ => rfl)) pa_nil))) (pv 0) (nomark _)))))), ?_⟩)
  obtain ⟨x, q, rfl, hx, sz, k⟩ := h
  obtain ⟨a, rfl, ta⟩ := is_rat hx
  have hd := den_pos q
  walk_at "g"
  refine x_isiT ta ?_
  walk_at "g"
  refine x_lenT ta ?_
  walk_at "g"
  refine ⟨_, rfl, ?_⟩
  walk_at "g"
  refine ⟨_, rfl, ?_⟩
  walk_at "g"
  refine x_f (decide_eq_false (by omega)) ?_
  walk_at "g"
  refine ⟨_, _, rfl, hd, ?_, fun v H1 e1 hv => ?_⟩
  · rw [Int.natAbs_natCast]
    exact Nat.lt_trans sz.d (Nat.pow_lt_pow_right (by decide) (by decide))
  rw [Int.natAbs_natCast, Rat.mkRat_self] at hv
  walk_at "g"
  refine x_eqR hv (Tp.mono (kp_same e1) hx) ?_
  rw [decide_eq_true rfl]
  exact k _ e1
theorem ok_law_chances (T : Tx K mg) : FnOk P w K mg base CX0 3 (He.ga K "_law_chances") (fdAt K (He.ga K "_law_chances")) ["_law_pot_here", "_law_many", "_law_most"] (sp_law_chances K) := by
  refine FunD.ok T.F_law_chances sc_law_chances (fun vs H Q E h => by obtain ⟨p, n, rfl, _⟩ := h; rfl) (fun cdv A outer s H vs Q E hr h => ⟨_, PSs.nox (pss_cons (ps_set (i := 3) sc_law_chances.nd rfl (by first | exact Or.inl rfl | exact Or.inr rfl) (pe_callB (kc_min2 rfl) (by rfl) T.z_min bt_min (pa_cons (pv 1) (pa_cons (pv 2) pa_nil))))
    (pss_cons (ps_set (i := 4) sc_law_chances.nd rfl (by first | exact Or.inl rfl | exact Or.inr rfl) (pe_callB (kc_sorted K) (by rfl) T.z_sorted bt_sorted (pa_cons (pe_slice (ks_list K) (pe_call (ok_law_shuffled T) (hr.mono (by decide)) (by rfl) T.m_law_shuffled T.F_law_shuffled.kp (b_law_shuffled T) .nil pass0 (pa_cons (pv 0) (pa_cons (pv 1) pa_nil))) po_none (po_some (pe_op op_add pe_int (pe_callB (kc_max2 rfl) (by rfl) T.z_max bt_max (pa_cons (pe_call (ok_law_take T) (hr.mono (by decide)) (by rfl) T.m_law_take T.F_law_take.kp (b_law_take T) .nil pass0 (pa_cons (pv 0) (pa_cons (pv 3) pa_nil))) (pa_cons (pe_call (ok_law_take T) (hr.mono (by decide)) (by rfl) T.m_law_take T.F_law_take.kp (b_law_take T) .nil pass0 (pa_cons (pv 0) (pa_cons (pv 3) pa_nil))) pa_nil)))))) pa_nil)))
    (pss_cons (ps_set (i := 5) sc_law_chances.nd rfl (by first | exact Or.inl rfl | exact Or.inr rfl) (pe_call (ok_law_lot T) (hr.mono (by decide)) (by rfl) T.m_law_lot T.F_law_lot.kp (b_law_lot T) .nil pass0 (pa_cons (pv 0) (pa_cons (pe_callB (kc_len K) (by rfl) T.z_len bt_len (pa_cons (pv 4) pa_nil)) pa_nil))))
    (pss_cons (ps_set (i := 6) sc_law_chances.nd rfl (by first | exact Or.inl rfl | exact Or.inr rfl) (pe_callB (kc_sum K rfl) (by rfl) T.z_sum bt_sum (pa_cons (pv 5) pa_nil)))
    (pss_one (ps_ret (pe_callTy (kc_tuple K) (by rfl) T.z_tuple bt_tuple (pa_cons (pe_lc (own := [("_law_stand", 7), ("_law_part", 8)]) rfl sc_law_chances.nd (kp_zip K false false (by rfl) T.z_zip (pa_cons (pv 4) (pa_cons (pv 5) pa_nil))) (blkOk_by (by kernel_rfl)) (fun _ _ _ _ _ => (kg_tup K (n := 2) rfl (pgs_cons (pg_name (i := 7) sc_law_chances.nd rfl (Or.inl rfl) (Or.inr rfl)) (pgs_cons (pg_name (i := 8) sc_law_chances.nd rfl (Or.inl rfl) (Or.inr rfl)) pgs_nil)))) (fun _ _ _ _ _ => (pts_one (pt_cmpR op_gt (pv 8) pe_int (nomark _)))) (fun _ _ _ _ _ => (pe_tup (pa_cons (pv 7) (pa_cons (pe_call (ok_law_low T) (hr.mono (by decide)) (by rfl) T.m_law_low T.F_law_low.kp (b_law_low T) .nil pass0 (pa_cons (pv 8) (pa_cons (pv 6) pa_nil))) pa_nil))))) pa_nil)))))))), ?_⟩)
  obtain ⟨p, n, rfl, hp, h1, h8, k⟩ := h
  walk_at "g"
  have el : (if (3 : Int) < n then (3 : Int) else (n : Int)) = ((min n 3 : Nat) : Int) := by
    by_cases q : 3 < n
    · rw [if_pos (by omega)]; omega
    · rw [if_neg (by omega)]; omega
  refine ⟨p, n, rfl, hp, by omega, fun L l H1 f1 nL hL pm => ?_⟩
  have nLp := hp.ne nL
  have ll : l.length = n := by rw [pm.length_eq, List.length_range]
  rw [el]
  walk_at "g"
  refine ⟨p, min n 3, rfl, f1.2, by omega, by omega, fun j1 H2 hj1 f2 => ?_⟩
  walk_at "g"
  refine ⟨p, min n 3, rfl, f2.2, by omega, by omega, fun j2 H3 hj2 f3 => ?_⟩
  have f13 := (f1.trans f2).trans f3
  have hL3 := (f2.trans f3).lst hL nLp
  walk_at "g"
  refine ⟨L, iv l, rfl, SqL.of hL3, fun L2 nL2 => ?_⟩
  have ec : (1 : Int) + (if (j2 : Int) > j1 then (j2 : Int) else j1) = ((1 + max j1 j2 : Nat) : Int) := by
    by_cases q : j1 < j2
    · rw [if_pos (by omega)]; omega
    · rw [if_neg (by omega)]; omega
  rw [ec, cut_hi]
  have et : (iv l).take (1 + max j1 j2) = iv (l.take (1 + max j1 j2)) := by
    unfold iv
    rw [List.map_take]
  rw [et]
  walk_at "g"
  have tl : (l.take (1 + max j1 j2)).length = 1 + max j1 j2 := by rw [List.length_take]; omega
  refine ⟨L2, (l.take (1 + max j1 j2)).map fun k : Nat => (k : Int), rfl, sq_iv upd_same, by rw [List.length_map, tl]; omega, fun ns L3 pm2 pw nL3 => ?_⟩
  obtain ⟨told, e1, e2, pw2, lt⟩ := told_ok pm pm2 pw
  rw [e1]
  rw [tl] at e2
  have s4 := (same_new (o := .lst (iv (l.take (1 + max j1 j2)))) nL2).trans (same_new (o := .lst (iv told)) nL3)
  have f14 := f13.add s4
  have hL3' : (upd (upd H3 L2 (.lst (iv (l.take (1 + max j1 j2))))) L3 (.lst (iv told))) L3 = some (.lst (iv told)) := upd_same
  have n3 : L3 ≠ p := (f13.add (same_new (o := .lst (iv (l.take (1 + max j1 j2)))) nL2)).2.ne nL3
  generalize upd (upd H3 L2 (.lst (iv (l.take (1 + max j1 j2))))) L3 (.lst (iv told)) = H4 at *
  walk_at "g"
  refine x_lenL hL3' ?_
  walk_at "g"
  refine ⟨p, told.length, by rw [iv_len]; rfl, f14.2, by omega, by omega, fun L5 so H5 f5 nL5 hL5 e5 b5 s5 => ?_⟩
  have f15 := f14.trans f5
  have hT := f5.lst hL3' n3
  walk_at "g"
  refine ⟨L5, so.map fun k : Nat => (k : Int), rfl, sq_iv hL5, ?_⟩
  rw [cast_sum]
  walk_at "g"
  have sA : SqX K false H5 L3 (iv told) := SqL.of hT
  have sB : SqX K false H5 L5 (iv so) := SqL.of hL5
  have zl : (told.zip so).length = told.length := by rw [List.length_zip]; omega
  have s9 : so.sum ≤ 9 := by
    have := sum_le b5
    omega
  refine ⟨L3, L5, iv told, iv so, rfl, sA, sB, x_lc (K := K) (walk_x (n := (told.zip so).length) (by rw [zl, iv_len, iv_len]; omega)) (by omega) (fun H2 e => ⟨sqx_same e sA, sqx_same e sB⟩) (fun i => ((told.zip so)[i]?).bind (chG so.sum)) ?_ ypair_same ?_⟩
  · rintro i x H6 H7 R N hi e6 ⟨Tq, u1, u2, rfl, nT, rfl, g1, g2⟩ yes no
    obtain ⟨a, ga, ha⟩ := isl_get (iv_isl (K := K) (H := H5) told) g1
    obtain ⟨b, gb, hb⟩ := isl_get (iv_isl (K := K) (H := H5) so) g2
    cases is_nat ha
    cases is_nat hb
    have gz : (told.zip so)[i]? = some (a, b) := List.getElem?_zip_eq_some.mpr ⟨ga, gb⟩
    refine x_gpair (.of upd_same) ⟨rfl, ?_⟩
    walk_at "g"
    by_cases c : 0 < b
    · refine x_t (decide_eq_true (by omega)) ?_
      walk_at "g"
      refine ⟨_, _, rfl, by omega, ?_, fun v H8 e8 hv => ?_⟩
      · rw [Int.natAbs_natCast]
        exact Nat.lt_of_lt_of_le (show so.sum < 2 ^ 10 by omega) (Nat.pow_le_pow_right (by decide) (by decide))
      walk_at "g"
      refine ⟨by show 2 ≤ sizeLine; decide, fun q hq => ?_⟩
      have s9 := same_new (o := .tup [.int (a : Nat), v]) hq
      exact yes (a, mkRat (b : Int) so.sum) (by rw [gz]; show chG so.sum (a, b) = _; unfold chG; rw [if_pos c]) _ _ (e8.trans s9) (is_pair_mk (p := (a, mkRat (b : Int) so.sum)) (.of upd_same) (.int _) (Tp.mono (kp_same s9) hv))
    · refine x_f (decide_eq_false (by omega)) ?_
      exact no (by rw [gz]; show chG so.sum (a, b) = _; unfold chG; rw [if_neg c]) _ (Same.refl _)
  · intro L6 H6 zs nL6 e6 hL6 il6
    rw [range_bind] at il6
    obtain ⟨c1, c2, c3⟩ := ch_ok (n := n) (by omega) pw2 lt (by omega) b5 s5
    walk_at "g"
    refine ⟨L6, zs, rfl, .inl ⟨SqL.of hL6, fun t o nt oc od => ?_⟩⟩
    have s7 := same_new (o := .frz o (.tup zs)) nt
    walk_at "g"
    exact k _ (chL told so) _ (f15.add (e6.trans s7)) (is_list_mk (TupA.frz (K := K) (o := o) upd_same) (TpAll.mono (kp_same s7) il6)) c1 c2 c3
end
end K66

/-! L3a: marks, coarser sights, what is told (own work) -/
namespace K66
open PySem PySem.Spec PyProof.Rows L2
local macro_rules | `(tactic| walk_at "kp") => `(tactic| first
  | exact Kp.refl _
  | assumption
  | (refine Kp.trans (by assumption) ?_; walk_at "kp")
  | (refine Kp.trans (kp_same (by assumption)) ?_; walk_at "kp"))
local macro_rules | `(tactic| walk_at "is") => `(tactic| first
  | assumption
  | (refine Tp.mono ?_ (by assumption); walk_at "kp"))
local macro_rules | `(tactic| walk_at "x") => `(tactic| with_reducible first
  | refine x_seq ?_ | refine x_ret ?_ | refine x_asg ?_ | refine x_ifs ?_ | refine x_drop ?_ | refine x_next ?_ | refine x_call ?_ | refine x_cb ?_ | refine x_cons ?_ | refine x_nil ?_
  | refine x_op ?_ | refine x_un ?_ | refine x_c ?_ | refine x_i0 ?_ | refine x_u ?_ | refine x_eqI ?_ | refine x_neI ?_ | refine x_test ?_ | refine x_tb ?_ | refine x_bl ?_ | refine x_not ?_
  | refine x_and ?_ | refine x_or ?_ | refine x_andV ?_ | refine x_orV ?_ | refine x_notV ?_ | refine x_if ?_ | refine x_tup ?_ | refine x_lst ?_ | refine x_name ?_ | refine x_gcd ?_ | refine x_for ?_ | refine x_par ?_ | refine x_par3 ?_ | refine x_two ?_ | refine x_three ?_ | refine x_lcd ?_ | refine x_yes ?_ | refine x_isq ?_ | refine x_izip ?_ | refine x_ienum ?_ | refine x_irng ?_ | refine x_kt ?_ | refine x_isiI ?_ | refine x_isiB ?_ | refine x_chain ?_ | refine x_sl ?_ | refine x_part ?_ | refine x_nopart ?_ | refine x_isint ?_ | refine x_bm ?_ | refine x_tix ?_ )
local macro_rules | `(tactic| walk_at "v") => `(tactic| ((with_reducible refine x_var (v := ?kv) ?k1 ?_); (case k1 => exact rfl)))
local macro_rules | `(tactic| walk_at "n") => `(tactic| first
  | ((with_reducible refine x_num (q := ?kv) ?k1 ?_); (case k1 => walk_at "is"))
  | ((with_reducible refine x_den (q := ?kv) ?k1 ?_); (case k1 => walk_at "is")))
local macro_rules | `(tactic| walk_at "m") => `(tactic| ((with_reducible refine x_i ?k1 ?_); (case k1 => first | exact mw_nd (by assumption) (by assumption) | exact mw_nn (by assumption) (by assumption) | exact mw_dd (by assumption) (by assumption))))
local macro_rules | `(tactic| walk_at "tu") => `(tactic| first
  | assumption
  | (refine TupA.mono ?_ (by assumption); walk_at "kp"))
local macro_rules | `(tactic| walk_at "i") => `(tactic| first
  | ((with_reducible refine x_ix0 (us := ?ku) (v := ?kv) ?k1 ?k2 ?_); (case k1 => walk_at "tu"); (case k2 => exact rfl))
  | ((with_reducible refine x_ix1 (us := ?ku) (v := ?kv) ?k1 ?k2 ?_); (case k1 => walk_at "tu"); (case k2 => exact rfl))
  | ((with_reducible refine x_ix2 (us := ?ku) (v := ?kv) ?k1 ?k2 ?_); (case k1 => walk_at "tu"); (case k2 => exact rfl)))
local macro_rules | `(tactic| walk_at "ht") => `(tactic| refine x_t (by first | rfl | (simp; done) | (simp; omega)) ?_)
local macro_rules | `(tactic| walk_at "hf") => `(tactic| refine x_f (by first | rfl | (simp; done) | (simp; omega)) ?_)
local macro_rules | `(tactic| walk_at "g") => `(tactic| repeat (first | walk_at "x" | walk_at "v" | walk_at "n" | walk_at "i" | walk_at "m" | ((with_reducible refine x_f ?k1 ?_); (case k1 => exact rfl)) | ((with_reducible refine x_t ?k1 ?_); (case k1 => exact rfl))))

local macro_rules | `(tactic| walk_at "y") => `(tactic| with_reducible first
  | refine x_int1 ?_ | refine x_absI ?_ | refine x_dvm ?_ | refine x_lrg ?_ | refine x_rg1 ?_ | refine x_gsub ?_ | refine x_max2 ?_ | refine x_min2 ?_ | refine x_w0 ?_)
local macro_rules | `(tactic| walk_at "o") => `(tactic| ((with_reducible refine x_i ?k1 ?_); (case k1 => first | exact cmul_l (by decide) (by decide) | exact cmul_r (by decide) (by decide) | exact cmod_p (by decide) | exact cdiv_p (by decide) (by decide))))
local macro_rules | `(tactic| walk_at "g") => `(tactic| repeat (first | walk_at "x" | walk_at "v" | walk_at "y" | walk_at "n" | walk_at "i" | walk_at "m" | walk_at "o" | ((with_reducible refine x_f ?k1 ?_); (case k1 => exact rfl)) | ((with_reducible refine x_t ?k1 ?_); (case k1 => exact rfl))))

structure MkOk (marks : List Nat) : Prop where
  m2 : ∀ m ∈ marks, m ≤ 2
  all : ∀ m, m < mmany marks → m ∈ marks
theorem mmany_of {l : List Nat} {t : Nat} (h1 : ∀ k ∈ l, k < t) (h0 : t - 1 ∈ l) (ht : 0 < t) : mmany l = t := by
  have a := mtop_ge h0
  have ne : l ≠ [] := fun z => by rw [z] at h0; cases h0
  have b := h1 _ (mtop_mem ne)
  unfold mmany
  omega
def sp_law_marks (K : PySem.W.Frag) : Sp := fun vs H Q _ => ∃ (p : Addr) (n : Nat), vs = [.ref p, .int n] ∧ Pot H p ∧ 1 ≤ n ∧ n ≤ 4 ∧ ∀ v (marks : List Nat) H', PF p H H' → Mk K H' v marks → marks.length = n → MkOk marks → Q v H'
def sp_law_deeds (K : PySem.W.Frag) : Sp := fun vs H Q _ => ∃ (x : V) (dim : Dim), vs = [x] ∧ IsDim K H x dim ∧ DimOk dim ∧ ∀ L H', Same H H' → H L = none → H' L = some (.lst (iv ((List.range (mmany dim.2)).map (deedsN dim)))) → Q (.ref L) H'
def sp_law_few (K : PySem.W.Frag) : Sp := fun vs H Q _ => ∃ (p L : Addr) (l : List Nat), vs = [.ref p, .ref L, .int 40] ∧ Pot H p ∧ H L = some (.lst (iv l)) ∧ L ≠ p ∧ l ≠ [] ∧ l.length ≤ 1000 ∧ (∀ k ∈ l, k ≤ 1000) ∧ ∀ (k : Nat) H', k ≤ 4 → PF p H H' → Q (.int k) H'
/-- how a coarser sight takes marks -/
structure TkOk (M : Nat) (tk : List Nat) : Prop where
  len : tk.length = M
  m2 : ∀ m ∈ tk, m ≤ 2
  all : ∀ m, m < mmany tk → m ∈ tk
  inj : mmany tk = M → tk.Nodup
def sp_law_other_sight (K : PySem.W.Frag) : Sp := fun vs H Q _ => ∃ (p : Addr) (y : V) (marks : List Nat), vs = [.ref p, y] ∧ Pot H p ∧ Mk K H y marks ∧ MkOk marks ∧ marks ≠ [] ∧ marks.length ≤ 1000 ∧ ∀ v (tk : List Nat) H', PF p H H' → TkOk (mmany marks) tk → Mk K H' v (marks.map fun m => tk.getD m 0) → Q v H'
def sp_law_number_told (K : PySem.W.Frag) : Sp := fun vs H Q _ => ∃ (x y z : V) (dim : Dim) (ws : List Rat) (n D N : Nat) (st : List Rat), vs = [x, z, y, .int n] ∧ IsDim K H x dim ∧ Is K H y ws ∧ Is K H z st ∧ Stt dim ws n D N st ∧
  ∀ v H', Same H H' → Is K H' v (lookR ws dim n st) → Q v H'
section
variable {P : Program} {w : World} {K : PySem.W.Frag} {mg : Str → Option Value} {base : Heap}
theorem ok_law_marks (T : Tx K mg) : FnOk P w K mg base CX0 3 (He.ga K "_law_marks") (fdAt K (He.ga K "_law_marks")) ["_law_pot_here", "_law_many"] (sp_law_marks K) := by
  refine FunD.ok T.F_law_marks sc_law_marks (fun vs H Q E h => by obtain ⟨p, n, rfl, _⟩ := h; rfl) (fun cdv A outer s H vs Q E hr h => ⟨_, PSs.nox (pss_cons (ps_par (i := 2) (j := 3) rfl sc_law_marks.nd rfl rfl (by decide) rfl rfl (pa_cons (pe_op op_add pe_int (pe_call (ok_law_take T) (hr.mono (by decide)) (by rfl) T.m_law_take T.F_law_take.kp (b_law_take T) .nil pass0 (pa_cons (pv 0) (pa_cons (pe_callB (kc_min2 rfl) (by rfl) T.z_min bt_min (pa_cons (pv 1) (pa_cons pe_int pa_nil))) pa_nil)))) (pa_cons (pe_lst pa_nil) pa_nil)) (by rfl))
    (pss_cons (ps_for PassesOwn.never rfl (pi_range1 rfl T.z_range (pa_cons (pv 1) pa_nil)) (pg_name (i := 4) sc_law_marks.nd rfl (by first | exact Or.inl rfl | exact Or.inr rfl) (Or.inl rfl)) (pss_one (ps_expr (ke_bm K PySem.F.plainAttrs_list PySem.F.slot_list_append PySem.F.type_list_append mt_append (pv 3) (pa_cons (pe_call (ok_law_take T) (hr.mono (by decide)) (by rfl) T.m_law_take T.F_law_take.kp (b_law_take T) .nil pass0 (pa_cons (pv 0) (pa_cons (pv 2) pa_nil))) pa_nil)))))
    (pss_cons (ps_set (i := 5) sc_law_marks.nd rfl (by first | exact Or.inl rfl | exact Or.inr rfl) (pe_call (ok_law_shuffled T) (hr.mono (by decide)) (by rfl) T.m_law_shuffled T.F_law_shuffled.kp (b_law_shuffled T) .nil pass0 (pa_cons (pv 0) (pa_cons (pv 1) pa_nil))))
    (pss_cons (ps_for PassesOwn.never rfl (pi_range1 rfl T.z_range (pa_cons (pv 2) pa_nil)) (pg_name (i := 6) sc_law_marks.nd rfl (by first | exact Or.inl rfl | exact Or.inr rfl) (Or.inl rfl)) (pss_one (ps_asg (pv 6) (pg_sub (pv 3) (pe_ix (ki_list K) (pv 5) (pv 6) (fun _ _ => rfl)) set_list))))
    (pss_one (ps_ret (pe_callTy (kc_tuple K) (by rfl) T.z_tuple bt_tuple (pa_cons (pv 3) pa_nil)))))))), ?_⟩)
  obtain ⟨p, n, rfl, hp, h1, h4, k⟩ := h
  have a3 : sizeLine = 16777216 := sizeLine_eq
  have el : (if (3 : Int) < n then (3 : Int) else (n : Int)) = ((min n 3 : Nat) : Int) := by
    by_cases q : 3 < n
    · rw [if_pos (by omega)]; omega
    · rw [if_neg (by omega)]; omega
  walk_at "g"
  rw [el]
  refine ⟨p, min n 3, rfl, hp, by omega, by omega, fun t0 H1 ht0 f1 => ?_⟩
  walk_at "g"
  refine ⟨by show 0 ≤ sizeLine; decide, fun fa hfa => ?_⟩
  have nf : fa ≠ p := f1.2.ne hfa
  have hfa0 : H fa = none := f1.free hfa hp
  walk_at "g"
  have em : (1 : Int) + (t0 : Nat) = ((1 + t0 : Nat) : Int) := by omega
  rw [em]
  refine ⟨n, rfl, by omega, by omega, for_it walk_range (fun i σ' H' => ∃ (y4 : Option V) (l : List Nat), σ' = [some (.ref p), some (.int n), some (.int (1 + t0 : Nat)), some (.ref fa), y4, none, none] ∧ PF p H H' ∧ H' fa = some (.lst (iv l)) ∧ l.length = i ∧ ∀ k ∈ l, k < 1 + t0)
    ⟨none, [], rfl, f1.new hfa, upd_same, rfl, fun q hq => by cases hq⟩ (fun i σ' H' _ _ => trivial) ?_ ?_⟩
  · rintro i x σ' H2 H3 hi ⟨y4, l, rfl, f2, g1, e1, b1⟩ ⟨rfl, rfl⟩
    refine x_name ?_
    walk_at "g"
    refine ⟨.inl ⟨rfl, _, SqL.of g1⟩, ?_⟩
    walk_at "g"
    refine ⟨p, 1 + t0, rfl, f2.2, by omega, by omega, fun c H4 hc f4 => ?_⟩
    have g4 := f4.lst g1 nf
    walk_at "g"
    refine ⟨fa, iv l, _, rfl, rfl, g4, by rw [iv_len]; omega, ?_⟩
    refine ⟨_, l ++ [c], rfl, (f2.trans f4).mut hfa0 nf, ?_, by rw [List.length_append, e1]; rfl, fun z hz => ?_⟩
    · rw [upd_same]
      unfold iv
      rw [List.map_append]
      rfl
    · rcases List.mem_append.mp hz with q1 | q1
      · exact b1 z q1
      · rw [List.mem_singleton.mp q1]; exact hc
  · rintro σ' H2 ⟨y4, l, rfl, f2, g2, e2, b2⟩
    rw [Int.toNat_natCast] at e2
    walk_at "g"
    refine ⟨p, n, rfl, f2.2, by omega, fun L pl H3 f3 nL hL pm => ?_⟩
    have nLp := f2.2.ne nL
    have nLf : L ≠ fa := fun z => by
      rw [z, g2] at nL
      cases nL
    have g3 := f3.lst g2 nf
    have f23 := f2.trans f3
    have pll : pl.length = n := by rw [pm.length_eq, List.length_range]
    have pnd : pl.Nodup := pm.nodup_iff.mpr List.nodup_range
    walk_at "g"
    refine ⟨_, rfl, by omega, by omega, for_it walk_range (fun i σ' H' => ∃ (y4 y6 : Option V) (l : List Nat), σ' = [some (.ref p), some (.int n), some (.int (1 + t0 : Nat)), some (.ref fa), y4, some (.ref L), y6] ∧ PF p H H' ∧ H' fa = some (.lst (iv l)) ∧ H' L = some (.lst (iv pl)) ∧ l.length = n ∧ (∀ k ∈ l, k < 1 + t0) ∧ ∀ j, j < i → l[pl.getD j 0]? = some j)
      ⟨_, none, l, rfl, f23, g3, hL, e2, b2, fun j hj => by omega⟩ (fun i σ' H' _ _ => trivial) ?_ ?_⟩
    · rintro i x σ' H4 H5 hi ⟨y4, y6, l, rfl, f4, g4, hL4, e4, b4, c4⟩ ⟨rfl, rfl⟩
      have hi2 : i < pl.length := by omega
      have gi := List.getElem?_eq_getElem hi2
      have gd : pl.getD i 0 = pl[i] := by rw [List.getD_eq_getElem?_getD, gi]; rfl
      have lt : pl[i] < n := List.mem_range.mp (pm.mem_iff.mp (List.getElem_mem hi2))
      have gv : (iv pl)[i]? = some (.int (pl[i] : Nat)) := by
        unfold iv
        rw [List.getElem?_map, gi]
        rfl
      refine x_name ?_
      walk_at "g"
      dsimp only
      rw [Int.zero_add]
      refine x_ixl i hL4 gv ?_
      refine ⟨fa, iv l, _, pl[i], rfl, rfl, g4, ixn (by rw [iv_len]; omega), ?_⟩
      have es : (iv l).set pl[i] (.int (i : Nat)) = iv (l.set pl[i] i) := by
        unfold iv
        rw [List.map_set]
      rw [es]
      refine ⟨_, _, l.set pl[i] i, rfl, f4.mut hfa0 nf, upd_same, ?_, by rw [List.length_set]; exact e4, fun z hz => ?_, fun j hj => ?_⟩
      · rw [upd_ne nLf]
        exact hL4
      · rcases List.mem_or_eq_of_mem_set hz with q | q
        · exact b4 z q
        · omega
      · by_cases q : j = i
        · subst q
          rw [gd, List.getElem?_set_self (by omega)]
        · have hj2 : j < pl.length := by omega
          have gj := List.getElem?_eq_getElem hj2
          have gd2 : pl.getD j 0 = pl[j] := by rw [List.getD_eq_getElem?_getD, gj]; rfl
          have c := c4 j (by omega)
          rw [gd2] at c ⊢
          rw [List.getElem?_set_ne (fun z => q ((List.getElem_inj pnd).mp z.symm))]
          exact c
    · rintro σ' H4 ⟨y4, y6, l, rfl, f4, g4, hL4, e4, b4, c4⟩
      have c4 : ∀ j, j < 1 + t0 → j ∈ l := fun j hj => List.mem_of_getElem? (c4 j (by omega))
      have em := mmany_of b4 (c4 (1 + t0 - 1) (by omega)) (by omega)
      walk_at "g"
      refine ⟨fa, iv l, rfl, .inl ⟨SqL.of g4, fun t o nt oc od => ?_⟩⟩
      have s5 := same_new (o := .frz o (.tup (iv l))) nt
      walk_at "g"
      exact k _ l _ (f4.add s5) ⟨t, o, iv l, rfl, upd_same, oc, od, iv_isl l⟩ e4 ⟨fun m hm => by have := b4 m hm; omega, fun m hm => c4 m (by omega)⟩
theorem ok_law_deeds (T : Tx K mg) : FnOk P w K mg base CX0 1 (He.ga K "_law_deeds") (fdAt K (He.ga K "_law_deeds")) ["_law_dim_here"] (sp_law_deeds K) := by
  refine FunD.ok T.F_law_deeds sc_law_deeds (fun vs H Q E h => by obtain ⟨x, dim, rfl, _⟩ := h; rfl) (fun cdv A outer s H vs Q E hr h => ⟨_, PSs.nox (pss_one (ps_ret (pe_lc (own := [("_law_mark", 1)]) rfl sc_law_deeds.nd (pi_range1 rfl T.z_range (pa_cons (pe_op op_add (pe_callB (kc_maxT K rfl hr.units) (by rfl) T.z_max bt_max (pa_cons (pe_ix (ki_tup K) (pv 0) pe_int (fun _ _ => rfl)) pa_nil)) pe_int) pa_nil)) (blkOk_by (by kernel_rfl)) (fun _ _ _ _ _ => (pg_name (i := 1) sc_law_deeds.nd rfl (Or.inl rfl) (Or.inr rfl))) (fun _ _ _ _ _ => pts_nil) (fun _ _ _ _ _ => (pe_callB (kc_len K) (by rfl) T.z_len bt_len (pa_cons (pe_ix (ki_tup K) (pe_ix (ki_tup K) (pe_ix (ki_tup K) (pv 0) pe_int (fun _ _ => rfl)) pe_int (fun _ _ => rfl)) (ke_tix K (pe_ix (ki_tup K) (pv 0) pe_int (fun _ _ => rfl)) (pa_cons (pv 1) pa_nil)) (fun _ _ => rfl)) pa_nil)))))), ?_⟩)
  obtain ⟨x, dim, rfl, hx, dk, k⟩ := h
  obtain ⟨a, x1, x2, rfl, ta, h1, b, o, us, rfl, hb, oc, od, lb⟩ := hx
  obtain ⟨c, y1, y2, y3, rfl, tc, q1, q2, q3⟩ := is_house h1
  obtain ⟨d, ss, rfl, td, ld⟩ := is_list q3
  have m3 := dk.m3
  walk_at "g"
  refine x_maxM (TupA.frz hb) lb dk.ne ?_
  walk_at "g"
  refine ⟨(mmany dim.2 : Nat), rfl, by omega, by omega, x_lcL (K := K) ((List.range (mmany dim.2)).map (deedsN dim)) walk_range (by rw [List.length_map, List.length_range]; rfl) (by omega) (fun _ _ => trivial) yfn_same ?_ ?_⟩
  · rintro i x y H6 H7 R N gy e ⟨rfl, rfl⟩ done
    rw [List.getElem?_map] at gy
    obtain ⟨j, gj, rfl⟩ := Option.map_eq_some_iff.mp gy
    have ej : i = j := by
      rw [List.getElem?_eq_some_iff] at gj
      obtain ⟨_, z⟩ := gj
      simpa using z
    subst ej
    have hi : i < mmany dim.2 := by
      have := (List.getElem?_eq_some_iff.mp gj).1
      rwa [List.length_range] at this
    have hm := dk.all i hi
    obtain ⟨s, g1, g2, g3⟩ := dk.at hm
    have k6 := kp_same e
    have ta6 := ta.mono k6
    have tc6 := tc.mono k6
    refine x_name ⟨rfl, ?_⟩
    walk_at "g"
    refine ⟨⟨b, o, us, rfl, e _ _ hb, oc, od⟩, ?_⟩
    walk_at "g"
    dsimp only
    rw [Int.zero_add]
    refine x_index (TupA.frz (e _ _ hb)) (TpAll.mono k6 lb) hm ?_
    refine x_atT (td.mono k6) (TpAll.mono k6 ld) g1 fun u hu => ?_
    walk_at "g"
    refine x_len hu ?_
    walk_at "g"
    refine done _ _ (Same.refl _) ?_
    rw [g3]
    exact .int _
  · intro L H6 zs nL e6 hL il
    have ez : zs = iv ((List.range (mmany dim.2)).map (deedsN dim)) := by
      rw [isl_nats il, iv_cast]
    rw [ez] at hL
    exact k L H6 e6 nL hL
theorem ok_law_few (T : Tx K mg) : FnOk P w K mg base CX0 2 (He.ga K "_law_few") (fdAt K (He.ga K "_law_few")) ["_law_pot_here", "_law_deeds_here", "_law_cap"] (sp_law_few K) := by
  refine FunD.ok T.F_law_few sc_law_few (fun vs H Q E h => by obtain ⟨p, L, l, rfl, _⟩ := h; rfl) (fun cdv A outer s H vs Q E hr h => ⟨_, PSs.nox (pss_cons (ps_asg (pe_tup (pa_cons pe_int (pa_cons pe_int pa_nil))) (kg_tup K (n := 2) rfl (pgs_cons (pg_name (i := 3) sc_law_few.nd rfl (by first | exact Or.inl rfl | exact Or.inr rfl) (Or.inl rfl)) (pgs_cons (pg_name (i := 4) sc_law_few.nd rfl (by first | exact Or.inl rfl | exact Or.inr rfl) (Or.inl rfl)) pgs_nil))))
    (pss_cons (ps_for PassesOwn.never rfl (pi_range1 rfl T.z_range (pa_cons pe_int pa_nil)) (pg_name (i := 5) sc_law_few.nd rfl (by first | exact Or.inl rfl | exact Or.inr rfl) (Or.inl rfl)) (pss_cons (ps_set (i := 4) sc_law_few.nd rfl (by first | exact Or.inl rfl | exact Or.inr rfl) (pe_op op_mul (pe_op op_mul (pv 4) (pe_callB (kc_max K rfl) (by rfl) T.z_max bt_max (pa_cons (pv 1) pa_nil))) (pe_callB (kc_len K) (by rfl) T.z_len bt_len (pa_cons (pv 1) pa_nil))))
    (pss_one (ps_if (pt_cmpR op_le (pv 4) (pv 2) (nomark _)) (pss_one (ps_set (i := 3) sc_law_few.nd rfl (by first | exact Or.inl rfl | exact Or.inr rfl) (pe_op op_add (pv 5) pe_int))) pss_nil))))
    (pss_one (ps_ret (pe_ifExp (pt_cmpR op_gt (pe_call (ok_law_take T) (hr.mono (by decide)) (by rfl) T.m_law_take T.F_law_take.kp (b_law_take T) .nil pass0 (pa_cons (pv 0) (pa_cons pe_int pa_nil))) pe_int (nomark _)) (pv 3) (pe_call (ok_law_take T) (hr.mono (by decide)) (by rfl) T.m_law_take T.F_law_take.kp (b_law_take T) .nil pass0 (pa_cons (pv 0) (pa_cons (pe_op op_add (pv 3) pe_int) pa_nil)))))))), ?_⟩)
  obtain ⟨p, L, l, rfl, hp, hL, nLp, ne, ln, lk, k⟩ := h
  have lpos : 0 < l.length := List.length_pos_iff.mpr ne
  walk_at "g"
  refine ⟨by show 2 ≤ sizeLine; decide, fun t ht => ?_⟩
  refine x_gpair (.of upd_same) ?_
  have f1 : PF p H (upd H t (.tup [.int 0, .int 1])) := .of (same_new ht) hp
  have hL1 := f1.lst hL nLp
  generalize upd H t (.tup [.int 0, .int 1]) = H1 at f1 hL1 ⊢
  walk_at "g"
  refine ⟨_, rfl, by decide, by decide, for_it walk_range (fun i σ' H' => ∃ (y5 : Option V) (m : Nat) (c : Int), σ' = [some (.ref p), some (.ref L), some (.int 40), some (.int m), some (.int c), y5] ∧ H' = H1 ∧ m ≤ i) ⟨none, 0, 1, rfl, rfl, Nat.le_refl _⟩ (fun i σ' H' _ _ => trivial) ?_ ?_⟩
  · rintro i x σ' H2 H3 hi ⟨y5, m, c, rfl, rfl, hm⟩ ⟨rfl, rfl⟩
    have hi4 : i < 4 := hi
    refine x_name ?_
    walk_at "g"
    refine ⟨L, l.map fun k : Nat => (k : Int), rfl, sq_iv hL1, by rw [List.length_map]; exact lpos, fun q hq hall => ?_⟩
    obtain ⟨q, hq2, rfl⟩ := List.mem_map.mp hq
    have := lk q hq2
    refine x_i (cmul_r (by omega) (by omega)) ?_
    walk_at "g"
    refine x_lenL hL1 ?_
    walk_at "g"
    refine x_i (cmul_r (by rw [iv_len]; omega) (by rw [iv_len]; omega)) ?_
    walk_at "g"
    refine x_2 (fun z => ?_) (fun z => ?_)
    · walk_at "g"
      dsimp only
      rw [Int.zero_add]
      exact ⟨some (.int (i : Nat)), i + 1, _, rfl, rfl, by omega⟩
    · walk_at "g"
      exact ⟨_, m, _, rfl, rfl, by omega⟩
  · rintro σ' H2 ⟨y5, m, c, rfl, rfl, hm⟩
    have hm4 : m ≤ 4 := hm
    walk_at "g"
    refine ⟨p, 3, rfl, f1.2, by decide, by decide, fun j H3 hj f3 => ?_⟩
    walk_at "g"
    refine x_2 (fun z => ?_) (fun z => ?_)
    · walk_at "g"
      exact k m _ hm4 (f1.trans f3)
    · walk_at "g"
      refine ⟨p, m + 1, rfl, f3.2, by omega, by omega, fun j2 H4 hj2 f4 => ?_⟩
      exact k j2 _ (by omega) ((f1.trans f3).trans f4)
def tks : List (List (List Nat)) := [[[0]], [[0, 0], [1, 0]], [[0, 0, 0], [0, 0, 1], [0, 1, 0], [0, 1, 1], [1, 0, 0], [2, 0, 1]]]
theorem tks_ok : ∀ M : Fin 3, ∀ tk ∈ tks.getD M.val [], tk.length = M.val + 1 ∧ (∀ m ∈ tk, m ≤ 2) ∧ (∀ m : Fin 4, m.val < mmany tk → m.val ∈ tk) ∧ (mmany tk = M.val + 1 → tk.Nodup) := by decide
theorem tk_ok {M : Nat} {tk : List Nat} (hM : M < 3) (h : tk ∈ tks.getD M []) : TkOk (M + 1) tk := by
  obtain ⟨h1, h2, h3, h4⟩ := tks_ok ⟨M, hM⟩ tk h
  refine ⟨h1, h2, fun m hm => ?_, h4⟩
  have ne : tk ≠ [] := fun z => by rw [z] at h1; cases h1
  have : mtop tk ≤ 2 := h2 _ (mtop_mem ne)
  exact h3 ⟨m, by unfold mmany at hm; omega⟩ hm
theorem ok_law_other_sight (T : Tx K mg) : FnOk P w K mg base CX0 3 (He.ga K "_law_other_sight") (fdAt K (He.ga K "_law_other_sight")) ["_law_pot_here", "_law_marks_here"] (sp_law_other_sight K) := by
  refine FunD.ok T.F_law_other_sight sc_law_other_sight (fun vs H Q E h => by obtain ⟨p, y, marks, rfl, _⟩ := h; rfl) (fun cdv A outer s H vs Q E hr h => ⟨_, PSs.nox (pss_cons (ps_set (i := 2) sc_law_other_sight.nd rfl (by first | exact Or.inl rfl | exact Or.inr rfl) (pe_tup (pa_cons (pe_tup (pa_cons (pe_tup (pa_cons pe_int pa_nil)) pa_nil)) (pa_cons (pe_tup (pa_cons (pe_tup (pa_cons pe_int (pa_cons pe_int pa_nil))) (pa_cons (pe_tup (pa_cons pe_int (pa_cons pe_int pa_nil))) pa_nil))) (pa_cons (pe_tup (pa_cons (pe_tup (pa_cons pe_int (pa_cons pe_int (pa_cons pe_int pa_nil)))) (pa_cons (pe_tup (pa_cons pe_int (pa_cons pe_int (pa_cons pe_int pa_nil)))) (pa_cons (pe_tup (pa_cons pe_int (pa_cons pe_int (pa_cons pe_int pa_nil)))) (pa_cons (pe_tup (pa_cons pe_int (pa_cons pe_int (pa_cons pe_int pa_nil)))) (pa_cons (pe_tup (pa_cons pe_int (pa_cons pe_int (pa_cons pe_int pa_nil)))) (pa_cons (pe_tup (pa_cons pe_int (pa_cons pe_int (pa_cons pe_int pa_nil)))) pa_nil))))))) pa_nil)))))
    (pss_cons (ps_set (i := 3) sc_law_other_sight.nd rfl (by first | exact Or.inl rfl | exact Or.inr rfl) (pe_call (ok_law_pick T) (hr.mono (by decide)) (by rfl) T.m_law_pick T.F_law_pick.kp (b_law_pick T) .nil pass0 (pa_cons (pv 0) (pa_cons (pe_ix (ki_tup K) (pv 2) (pe_callB (kc_maxT K rfl hr.units) (by rfl) T.z_max bt_max (pa_cons (pv 1) pa_nil)) (fun _ _ => rfl)) pa_nil))))
    (pss_one (ps_ret (pe_callTy (kc_tuple K) (by rfl) T.z_tuple bt_tuple (pa_cons (pe_lc (own := [("_law_mark", 4)]) rfl sc_law_other_sight.nd (kp_sq K true (pv 1)) (blkOk_by (by kernel_rfl)) (fun _ _ _ _ _ => (pg_name (i := 4) sc_law_other_sight.nd rfl (Or.inl rfl) (Or.inr rfl))) (fun _ _ _ _ _ => pts_nil) (fun _ _ _ _ _ => (pe_ix (ki_tup K) (pv 3) (pv 4) (fun _ _ => rfl)))) pa_nil)))))), ?_⟩)
  obtain ⟨p, y, marks, rfl, hp, hy, mo, ne, ml, k⟩ := h
  obtain ⟨b, o, us, rfl, hb, oc, od, lb⟩ := id hy
  have e1' := isl_len lb
  have mt := mo.m2 _ (mtop_mem ne)
  walk_at "g"
  refine ⟨by show 1 ≤ sizeLine; decide, fun a1 n1 => ?_⟩
  have s1 := same_new (o := .tup [.int 0]) n1
  have u1 : upd H a1 (.tup [.int 0]) a1 = some (.tup [.int 0]) := upd_same
  generalize upd H a1 (.tup [.int 0]) = H1 at *
  walk_at "g"
  refine ⟨by show 1 ≤ sizeLine; decide, fun a2 n2 => ?_⟩
  have s2 := same_new (o := .tup [.ref a1]) n2
  have u2 : upd H1 a2 (.tup [.ref a1]) a2 = some (.tup [.ref a1]) := upd_same
  generalize upd H1 a2 (.tup [.ref a1]) = H2 at *
  walk_at "g"
  refine ⟨by show 2 ≤ sizeLine; decide, fun a3 n3 => ?_⟩
  have s3 := same_new (o := .tup [.int 0, .int 0]) n3
  have u3 : upd H2 a3 (.tup [.int 0, .int 0]) a3 = some (.tup [.int 0, .int 0]) := upd_same
  generalize upd H2 a3 (.tup [.int 0, .int 0]) = H3 at *
  walk_at "g"
  refine ⟨by show 2 ≤ sizeLine; decide, fun a4 n4 => ?_⟩
  have s4 := same_new (o := .tup [.int 1, .int 0]) n4
  have u4 : upd H3 a4 (.tup [.int 1, .int 0]) a4 = some (.tup [.int 1, .int 0]) := upd_same
  generalize upd H3 a4 (.tup [.int 1, .int 0]) = H4 at *
  walk_at "g"
  refine ⟨by show 2 ≤ sizeLine; decide, fun a5 n5 => ?_⟩
  have s5 := same_new (o := .tup [.ref a3, .ref a4]) n5
  have u5 : upd H4 a5 (.tup [.ref a3, .ref a4]) a5 = some (.tup [.ref a3, .ref a4]) := upd_same
  generalize upd H4 a5 (.tup [.ref a3, .ref a4]) = H5 at *
  walk_at "g"
  refine ⟨by show 3 ≤ sizeLine; decide, fun a6 n6 => ?_⟩
  have s6 := same_new (o := .tup [.int 0, .int 0, .int 0]) n6
  have u6 : upd H5 a6 (.tup [.int 0, .int 0, .int 0]) a6 = some (.tup [.int 0, .int 0, .int 0]) := upd_same
  generalize upd H5 a6 (.tup [.int 0, .int 0, .int 0]) = H6 at *
  walk_at "g"
  refine ⟨by show 3 ≤ sizeLine; decide, fun a7 n7 => ?_⟩
  have s7 := same_new (o := .tup [.int 0, .int 0, .int 1]) n7
  have u7 : upd H6 a7 (.tup [.int 0, .int 0, .int 1]) a7 = some (.tup [.int 0, .int 0, .int 1]) := upd_same
  generalize upd H6 a7 (.tup [.int 0, .int 0, .int 1]) = H7 at *
  walk_at "g"
  refine ⟨by show 3 ≤ sizeLine; decide, fun a8 n8 => ?_⟩
  have s8 := same_new (o := .tup [.int 0, .int 1, .int 0]) n8
  have u8 : upd H7 a8 (.tup [.int 0, .int 1, .int 0]) a8 = some (.tup [.int 0, .int 1, .int 0]) := upd_same
  generalize upd H7 a8 (.tup [.int 0, .int 1, .int 0]) = H8 at *
  walk_at "g"
  refine ⟨by show 3 ≤ sizeLine; decide, fun a9 n9 => ?_⟩
  have s9 := same_new (o := .tup [.int 0, .int 1, .int 1]) n9
  have u9 : upd H8 a9 (.tup [.int 0, .int 1, .int 1]) a9 = some (.tup [.int 0, .int 1, .int 1]) := upd_same
  generalize upd H8 a9 (.tup [.int 0, .int 1, .int 1]) = H9 at *
  walk_at "g"
  refine ⟨by show 3 ≤ sizeLine; decide, fun a10 n10 => ?_⟩
  have s10 := same_new (o := .tup [.int 1, .int 0, .int 0]) n10
  have u10 : upd H9 a10 (.tup [.int 1, .int 0, .int 0]) a10 = some (.tup [.int 1, .int 0, .int 0]) := upd_same
  generalize upd H9 a10 (.tup [.int 1, .int 0, .int 0]) = H10 at *
  walk_at "g"
  refine ⟨by show 3 ≤ sizeLine; decide, fun a11 n11 => ?_⟩
  have s11 := same_new (o := .tup [.int 2, .int 0, .int 1]) n11
  have u11 : upd H10 a11 (.tup [.int 2, .int 0, .int 1]) a11 = some (.tup [.int 2, .int 0, .int 1]) := upd_same
  generalize upd H10 a11 (.tup [.int 2, .int 0, .int 1]) = H11 at *
  walk_at "g"
  refine ⟨by show 6 ≤ sizeLine; decide, fun a12 n12 => ?_⟩
  have s12 := same_new (o := .tup [.ref a6, .ref a7, .ref a8, .ref a9, .ref a10, .ref a11]) n12
  have u12 : upd H11 a12 (.tup [.ref a6, .ref a7, .ref a8, .ref a9, .ref a10, .ref a11]) a12 = some (.tup [.ref a6, .ref a7, .ref a8, .ref a9, .ref a10, .ref a11]) := upd_same
  generalize upd H11 a12 (.tup [.ref a6, .ref a7, .ref a8, .ref a9, .ref a10, .ref a11]) = H12 at *
  walk_at "g"
  refine ⟨by show 3 ≤ sizeLine; decide, fun a13 n13 => ?_⟩
  have s13 := same_new (o := .tup [.ref a2, .ref a5, .ref a12]) n13
  have u13 : upd H12 a13 (.tup [.ref a2, .ref a5, .ref a12]) a13 = some (.tup [.ref a2, .ref a5, .ref a12]) := upd_same
  generalize upd H12 a13 (.tup [.ref a2, .ref a5, .ref a12]) = H13 at *
  walk_at "g"
  have e12 : Same H12 H13 := s13
  have w12 := e12 _ _ u12
  have e11 : Same H11 H13 := s12.trans e12
  have w11 := e11 _ _ u11
  have e10 : Same H10 H13 := s11.trans e11
  have w10 := e10 _ _ u10
  have e9 : Same H9 H13 := s10.trans e10
  have w9 := e9 _ _ u9
  have e8 : Same H8 H13 := s9.trans e9
  have w8 := e8 _ _ u8
  have e7 : Same H7 H13 := s8.trans e8
  have w7 := e7 _ _ u7
  have e6 : Same H6 H13 := s7.trans e7
  have w6 := e6 _ _ u6
  have e5 : Same H5 H13 := s6.trans e6
  have w5 := e5 _ _ u5
  have e4 : Same H4 H13 := s5.trans e5
  have w4 := e4 _ _ u4
  have e3 : Same H3 H13 := s4.trans e4
  have w3 := e3 _ _ u3
  have e2 : Same H2 H13 := s3.trans e3
  have w2 := e2 _ _ u2
  have e1 : Same H1 H13 := s2.trans e2
  have w1 := e1 _ _ u1
  have ht : Is K H13 (.ref a13) tks := (.tup (.of u13) (.cons (.tup (.of w2) (.cons (is_list_mk (xs := ([0] : List Nat)) (.of w1) (iv_isl [0])) .nil)) (.cons (.tup (.of w5) (.cons (is_list_mk (xs := ([0, 0] : List Nat)) (.of w3) (iv_isl [0, 0])) (.cons (is_list_mk (xs := ([1, 0] : List Nat)) (.of w4) (iv_isl [1, 0])) .nil))) (.cons (.tup (.of w12) (.cons (is_list_mk (xs := ([0, 0, 0] : List Nat)) (.of w6) (iv_isl [0, 0, 0])) (.cons (is_list_mk (xs := ([0, 0, 1] : List Nat)) (.of w7) (iv_isl [0, 0, 1])) (.cons (is_list_mk (xs := ([0, 1, 0] : List Nat)) (.of w8) (iv_isl [0, 1, 0])) (.cons (is_list_mk (xs := ([0, 1, 1] : List Nat)) (.of w9) (iv_isl [0, 1, 1])) (.cons (is_list_mk (xs := ([1, 0, 0] : List Nat)) (.of w10) (iv_isl [1, 0, 0])) (.cons (is_list_mk (xs := ([2, 0, 1] : List Nat)) (.of w11) (iv_isl [2, 0, 1])) .nil))))))) .nil))))
  have e0 : Same H H13 := s1.trans e1
  have hb2 := e0 _ _ hb
  obtain ⟨q, zs, eq, tq, lq⟩ := is_list ht
  cases eq
  refine x_maxM (TupA.frz hb2) (TpAll.mono (kp_same e0) lb) ne ?_
  have g3 : tks[mtop marks]? = some (tks.getD (mtop marks) []) := by
    rw [List.getD_eq_getElem?_getD, List.getElem?_eq_getElem (show mtop marks < tks.length by show _ < 3; omega)]
    rfl
  refine x_atT tq lq g3 fun r hr => ?_
  obtain ⟨c, cs, rfl, tc, lc⟩ := is_list hr
  have cl := isl_len lc
  have bnd : ∀ M : Fin 3, 0 < (tks.getD M.val []).length ∧ (tks.getD M.val []).length ≤ 6 := by decide
  obtain ⟨b1, b2⟩ := bnd ⟨mtop marks, by omega⟩
  simp only at b1 b2
  walk_at "g"
  refine ⟨p, c, cs, rfl, hp.same e0, tc, (fun z => by rw [z, List.length_nil] at cl; omega), by omega, fun v H14 hv f14 => ?_⟩
  obtain ⟨i, hi⟩ := List.getElem?_of_mem hv
  obtain ⟨tk, gt, hk⟩ := isl_get lc hi
  have to := tk_ok (M := mtop marks) (by omega) (List.mem_of_getElem? gt)
  have k14 := f14.kp (hp.same e0)
  have f0 : PF p H H14 := (PF.of e0 hp).trans f14
  have k0 : Kp H H14 := f0.kp hp
  obtain ⟨d, ds, rfl, td, ld⟩ := is_list (Tp.mono k14 hk)
  have hb3 := k0 b (.frz o (.tup us)) trivial hb
  have tb3 := TupA.frz (K := K) hb3
  walk_at "g"
  refine ⟨b, rfl, ⟨us, tb3.sqx⟩, x_lcL (K := K) (marks.map fun m => tk.getD m 0) (walk_s true) (by rw [List.length_map, e1']) (by omega) (fun H2 e => sqx_same e tb3.sqx) yat_same ?_ ?_⟩
  · rintro i x y H2 H3 R N gy e ⟨rfl, g1⟩ done
    obtain ⟨m, gm, hm⟩ := isl_get lb g1
    rw [List.getElem?_map, gm] at gy
    cases gy
    have lm := mtop_ge (List.mem_of_getElem? gm)
    cases is_nat hm
    refine x_name ⟨rfl, ?_⟩
    walk_at "g"
    have gk : tk[m]? = some (tk.getD m 0) := by
      rw [List.getD_eq_getElem?_getD, List.getElem?_eq_getElem (by rw [to.len]; omega)]
      rfl
    exact x_atT (td.mono (kp_same e)) (TpAll.mono (kp_same e) ld) gk fun u hu => done _ _ (Same.refl _) hu
  · intro L H2 ys nL e2 hL il
    walk_at "g"
    refine ⟨L, ys, rfl, .inl ⟨SqL.of hL, fun t o2 nt oc2 od2 => ?_⟩⟩
    have s15 := same_new (o := .frz o2 (.tup ys)) nt
    walk_at "g"
    exact k _ tk _ (f0.add (e2.trans s15)) to ⟨t, o2, ys, rfl, upd_same, oc2, od2, TpAll.mono (kp_same s15) il⟩
theorem ok_law_number_told (T : Tx K mg) : FnOk P w K mg base CX0 16 (He.ga K "_law_number_told") (fdAt K (He.ga K "_law_number_told")) ["_law_dim_here", "_law_start", "_law_weights_here", "_law_many"] (sp_law_number_told K) := by
  refine FunD.ok T.F_law_number_told sc_law_number_told (fun vs H Q E h => by obtain ⟨x, y, z, dim, ws, n, D, N, st, rfl, _⟩ := h; rfl) (fun cdv A outer s H vs Q E hr h => ⟨_, PSs.nox (pss_cons (ps_set (i := 4) sc_law_number_told.nd rfl (by first | exact Or.inl rfl | exact Or.inr rfl) (pe_call (ok_best_lookout T) (hr.mono (by decide)) (by rfl) T.m_best_lookout T.F_best_lookout.kp (b_best_lookout T) .nil pass0 (pa_cons (pv 0) (pa_cons (pv 1) (pa_cons (pv 2) (pa_cons (pv 3) pa_nil))))))
    (pss_cons (ps_if (PW.pt (pw_or (pt_not (pt_val (pe_callB (kc_isi K) (by rfl) T.z_isinstance bt_isinstance (pa_cons (pv 4) (pa_cons (pe_bltn (v := .ty "tuple") (by rfl) T.z_tuple bt_tuple rfl) pa_nil))))) (pw_or (pt_cmpR op_ne (pe_callB (kc_len K) (by rfl) T.z_len bt_len (pa_cons (pv 4) pa_nil)) pe_int (nomark _)) (pw_or1 (pt_not (pt_val (pe_call (ok_law_is_fraction T) (hr.mono (by decide)) (by rfl) T.m_law_is_fraction T.F_law_is_fraction.kp (b_law_is_fraction T) .nil pass0 (pa_cons (pe_ix (ki_tup K) (pv 4) pe_int (fun _ _ => rfl)) pa_nil)))))))) (pss_one (ps_ret pe_non)) pss_nil)
    (pss_one (ps_ret (pe_ix (ki_tup K) (pv 4) pe_int (fun _ _ => rfl)))))), ?_⟩)
  obtain ⟨x, y, z, dim, ws, n, D, N, st, rfl, hx, hy, hz, q, k⟩ := h
  walk_at "g"
  refine ⟨x, y, z, dim, ws, n, D, N, st, rfl, hx, hy, hz, q, fun v H1 e1 hv => ?_⟩
  obtain ⟨a, r, t, d, rfl, ta, hr, ht⟩ := hv
  walk_at "g"
  refine x_isiT ta ?_
  walk_at "g"
  refine x_lenT ta ?_
  walk_at "g"
  have szl : Sz (lookR ws dim n st) := by
    have b := q.b
    have : Bd (D * EE n) ((aheadL ws dim n st).length * (N * GG n)) (lookR ws dim n st) := bd_rsum (Nat.mul_pos b.d0 (ee_pos n)) _ fun z hz => by
      obtain ⟨j, hj, rfl⟩ := List.mem_map.mp hz
      exact (b.hold j).bd (List.mem_range.mp hj)
    rw [ahead_len] at this
    exact one_mul_sz this (p600 (Nat.le_trans b.dk.m3 (by decide))) b.dB b.nB
  refine ⟨r, _, rfl, hr, szl, fun H2 e2 => ?_⟩
  have ta2 := ta.mono (kp_same e2)
  walk_at "g"
  exact k _ _ (e1.trans e2) (Tp.mono (kp_same e2) hr)
end
end K66

/-! L3b: drawn houses (own work) -/
namespace K66
open PySem PySem.Spec PyProof.Rows L2
local macro_rules | `(tactic| walk_at "kp") => `(tactic| first
  | exact Kp.refl _
  | assumption
  | (refine Kp.trans (by assumption) ?_; walk_at "kp")
  | (refine Kp.trans (kp_same (by assumption)) ?_; walk_at "kp"))
local macro_rules | `(tactic| walk_at "is") => `(tactic| first
  | assumption
  | (refine Tp.mono ?_ (by assumption); walk_at "kp"))
local macro_rules | `(tactic| walk_at "x") => `(tactic| with_reducible first
  | refine x_seq ?_ | refine x_ret ?_ | refine x_asg ?_ | refine x_ifs ?_ | refine x_drop ?_ | refine x_next ?_ | refine x_call ?_ | refine x_cb ?_ | refine x_cons ?_ | refine x_nil ?_
  | refine x_op ?_ | refine x_un ?_ | refine x_c ?_ | refine x_i0 ?_ | refine x_u ?_ | refine x_eqI ?_ | refine x_neI ?_ | refine x_test ?_ | refine x_tb ?_ | refine x_bl ?_ | refine x_not ?_
  | refine x_and ?_ | refine x_or ?_ | refine x_andV ?_ | refine x_orV ?_ | refine x_notV ?_ | refine x_if ?_ | refine x_tup ?_ | refine x_lst ?_ | refine x_name ?_ | refine x_gcd ?_ | refine x_for ?_ | refine x_par ?_ | refine x_par3 ?_ | refine x_two ?_ | refine x_three ?_ | refine x_lcd ?_ | refine x_yes ?_ | refine x_isq ?_ | refine x_izip ?_ | refine x_ienum ?_ | refine x_irng ?_ | refine x_kt ?_ | refine x_isiI ?_ | refine x_isiB ?_ | refine x_chain ?_ | refine x_sl ?_ | refine x_part ?_ | refine x_nopart ?_ | refine x_isint ?_ | refine x_bm ?_ | refine x_tix ?_ )
local macro_rules | `(tactic| walk_at "v") => `(tactic| ((with_reducible refine x_var (v := ?kv) ?k1 ?_); (case k1 => exact rfl)))
local macro_rules | `(tactic| walk_at "n") => `(tactic| first
  | ((with_reducible refine x_num (q := ?kv) ?k1 ?_); (case k1 => walk_at "is"))
  | ((with_reducible refine x_den (q := ?kv) ?k1 ?_); (case k1 => walk_at "is")))
local macro_rules | `(tactic| walk_at "m") => `(tactic| ((with_reducible refine x_i ?k1 ?_); (case k1 => first | exact mw_nd (by assumption) (by assumption) | exact mw_nn (by assumption) (by assumption) | exact mw_dd (by assumption) (by assumption))))
local macro_rules | `(tactic| walk_at "tu") => `(tactic| first
  | assumption
  | (refine TupA.mono ?_ (by assumption); walk_at "kp"))
local macro_rules | `(tactic| walk_at "i") => `(tactic| first
  | ((with_reducible refine x_ix0 (us := ?ku) (v := ?kv) ?k1 ?k2 ?_); (case k1 => walk_at "tu"); (case k2 => exact rfl))
  | ((with_reducible refine x_ix1 (us := ?ku) (v := ?kv) ?k1 ?k2 ?_); (case k1 => walk_at "tu"); (case k2 => exact rfl))
  | ((with_reducible refine x_ix2 (us := ?ku) (v := ?kv) ?k1 ?k2 ?_); (case k1 => walk_at "tu"); (case k2 => exact rfl)))
local macro_rules | `(tactic| walk_at "ht") => `(tactic| refine x_t (by first | rfl | (simp; done) | (simp; omega)) ?_)
local macro_rules | `(tactic| walk_at "hf") => `(tactic| refine x_f (by first | rfl | (simp; done) | (simp; omega)) ?_)
local macro_rules | `(tactic| walk_at "g") => `(tactic| repeat (first | walk_at "x" | walk_at "v" | walk_at "n" | walk_at "i" | walk_at "m" | ((with_reducible refine x_f ?k1 ?_); (case k1 => exact rfl)) | ((with_reducible refine x_t ?k1 ?_); (case k1 => exact rfl))))

local macro_rules | `(tactic| walk_at "y") => `(tactic| with_reducible first
  | refine x_int1 ?_ | refine x_absI ?_ | refine x_dvm ?_ | refine x_lrg ?_ | refine x_rg1 ?_ | refine x_gsub ?_ | refine x_max2 ?_ | refine x_min2 ?_ | refine x_w0 ?_)
local macro_rules | `(tactic| walk_at "o") => `(tactic| ((with_reducible refine x_i ?k1 ?_); (case k1 => first | exact cmul_l (by decide) (by decide) | exact cmul_r (by decide) (by decide) | exact cmod_p (by decide) | exact cdiv_p (by decide) (by decide))))
local macro_rules | `(tactic| walk_at "g") => `(tactic| repeat (first | walk_at "x" | walk_at "v" | walk_at "y" | walk_at "n" | walk_at "i" | walk_at "m" | walk_at "o" | ((with_reducible refine x_f ?k1 ?_); (case k1 => exact rfl)) | ((with_reducible refine x_t ?k1 ?_); (case k1 => exact rfl))))

structure DeedS (n pays : Nat) (d : Deed) : Prop where
  ok : DeedOk n pays d
  b : ∀ c ∈ d.1, Bd 2520 2520 c.2
  l : d.1.length ≤ 3
  g : All 84 (2 ^ 71) d.2
structure StandS (n pays : Nat) (s : List Deed) : Prop where
  lo : 1 ≤ s.length
  hi : s.length ≤ 4
  d : ∀ d ∈ s, DeedS n pays d
theorem house_ok {h : House} (s0 : 0 ≤ h.sh) (s1 : h.sh < 1) (s2 : Bd 2100 2100 h.sh) (p0 : 1 ≤ h.pays) (p1 : h.pays ≤ 4) (n0 : 1 ≤ h.st.length) (n1 : h.st.length ≤ 8) (st : ∀ s ∈ h.st, StandS h.st.length h.pays s) : HouseOk h ∧ HSz h :=
  ⟨⟨s0, s1, p0, p1, n0, n1, fun s hs => ⟨(st s hs).lo, (st s hs).hi, fun d hd => ((st s hs).d d hd).ok⟩⟩,
   ⟨s2, fun s hs d hd => ((st s hs).d d hd).b, fun s hs d hd => Nat.le_trans ((st s hs).d d hd).l (by decide), fun s hs d hd => ((st s hs).d d hd).g, fun s hs d hd => by rw [((st s hs).d d hd).ok.g]; exact p1⟩⟩
theorem mem_iv {v : V} {l : List Nat} (h : v ∈ iv l) : ∃ k ∈ l, v = .int (k : Nat) := by
  obtain ⟨k, hk, rfl⟩ := List.mem_map.mp h
  exact ⟨k, hk, rfl⟩
def sp_law_dim (K : PySem.W.Frag) : Sp := fun vs H Q _ => ∃ (p sz sm : Addr) (zl ml : List Nat), vs = [.ref p, .ref sz, .ref sm] ∧ Pot H p ∧ TupA K H sz (iv zl) ∧ TupA K H sm (iv ml) ∧ zl ≠ [] ∧ ml ≠ [] ∧ zl.length ≤ 1000 ∧ ml.length ≤ 1000 ∧ (∀ k ∈ zl, 1 ≤ k ∧ k ≤ 4) ∧ (∀ k ∈ ml, 1 ≤ k ∧ k ≤ 4) ∧
  ∀ v (dim : Dim) H', PF p H H' → IsDim K H' v dim → DimOk dim → HSz dim.1 → dim.1.st.length ≤ 4 → (∀ s ∈ dim.1.st, s.length ∈ ml) → Q v H'
def sp_law_any_house (K : PySem.W.Frag) : Sp := fun vs H Q _ => ∃ (p sz : Addr) (zl : List Nat), vs = [.ref p, .ref sz] ∧ Pot H p ∧ TupA K H sz (iv zl) ∧ zl ≠ [] ∧ zl.length ≤ 1000 ∧ (∀ k ∈ zl, 1 ≤ k ∧ k ≤ 4) ∧
  ∀ v (h : House) H', PF p H H' → Is K H' v h → HouseOk h → HSz h → h.st.length ∈ zl → Q v H'
def sp_law_timed (K : PySem.W.Frag) : Sp := sp_timed_worths K
section
variable {P : Program} {w : World} {K : PySem.W.Frag} {mg : Str → Option Value} {base : Heap}
theorem ok_law_dim (T : Tx K mg) : FnOk P w K mg base CX0 4 (He.ga K "_law_dim") (fdAt K (He.ga K "_law_dim")) ["_law_pot_here", "_law_sizes", "_law_some"] (sp_law_dim K) := by
  refine FunD.ok T.F_law_dim sc_law_dim (fun vs H Q E h => by obtain ⟨p, sz, sm, zl, ml, rfl, _⟩ := h; rfl) (fun cdv A outer s H vs Q E hr h => ⟨_, PSs.nox (pss_cons (ps_par3 (i := 3) (j := 4) (l := 5) rfl sc_law_dim.nd rfl rfl rfl (by decide) (by decide) (by decide) rfl rfl rfl (pa_cons (pe_call (ok_law_pick T) (hr.mono (by decide)) (by rfl) T.m_law_pick T.F_law_pick.kp (b_law_pick T) .nil pass0 (pa_cons (pv 0) (pa_cons (pv 1) pa_nil))) (pa_cons (pe_call (ok_law_pick T) (hr.mono (by decide)) (by rfl) T.m_law_pick T.F_law_pick.kp (b_law_pick T) .nil pass0 (pa_cons (pv 0) (pa_cons (pe_tup (pa_cons pe_int (pa_cons pe_int (pa_cons pe_int (pa_cons pe_int (pa_cons pe_int (pa_cons pe_int pa_nil))))))) pa_nil))) (pa_cons (pe_call (ok_law_share T) (hr.mono (by decide)) (by rfl) T.m_law_share T.F_law_share.kp (b_law_share T) .nil pass0 (pa_cons (pv 0) pa_nil)) pa_nil))) (by rfl))
    (pss_cons (ps_par3 (i := 6) (j := 7) (l := 8) rfl sc_law_dim.nd rfl rfl rfl (by decide) (by decide) (by decide) rfl rfl rfl (pa_cons (pe_call (ok_law_marks T) (hr.mono (by decide)) (by rfl) T.m_law_marks T.F_law_marks.kp (b_law_marks T) .nil pass0 (pa_cons (pv 0) (pa_cons (pv 3) pa_nil))) (pa_cons (pe_lst pa_nil) (pa_cons (pe_lst pa_nil) pa_nil))) (by rfl))
    (pss_cons (ps_for PassesOwn.never rfl (pi_range1 rfl T.z_range (pa_cons (pe_op op_add (pe_callB (kc_maxT K rfl hr.units) (by rfl) T.z_max bt_max (pa_cons (pv 6) pa_nil)) pe_int) pa_nil)) (pg_name (i := 9) sc_law_dim.nd rfl (by first | exact Or.inl rfl | exact Or.inr rfl) (Or.inl rfl)) (pss_one (ps_expr (ke_bm K PySem.F.plainAttrs_list PySem.F.slot_list_append PySem.F.type_list_append mt_append (pv 7) (pa_cons (pe_call (ok_law_pick T) (hr.mono (by decide)) (by rfl) T.m_law_pick T.F_law_pick.kp (b_law_pick T) .nil pass0 (pa_cons (pv 0) (pa_cons (pv 2) pa_nil))) pa_nil)))))
    (pss_cons (ps_for PassesOwn.never rfl (kp_sq K true (pv 6)) (pg_name (i := 9) sc_law_dim.nd rfl (by first | exact Or.inl rfl | exact Or.inr rfl) (Or.inl rfl)) (pss_cons (ps_set (i := 10) sc_law_dim.nd rfl (by first | exact Or.inl rfl | exact Or.inr rfl) (pe_lst pa_nil))
    (pss_cons (ps_for PassesOwn.never rfl (pi_range1 rfl T.z_range (pa_cons (pe_ix (ki_list K) (pv 7) (pv 9) (fun _ _ => rfl)) pa_nil)) (pg_name (i := 11) sc_law_dim.nd rfl (by first | exact Or.inl rfl | exact Or.inr rfl) (Or.inl rfl)) (pss_cons (ps_set (i := 12) sc_law_dim.nd rfl (by first | exact Or.inl rfl | exact Or.inr rfl) (pe_call (ok_law_chances T) (hr.mono (by decide)) (by rfl) T.m_law_chances T.F_law_chances.kp (b_law_chances T) .nil pass0 (pa_cons (pv 0) (pa_cons (pv 3) (pa_cons pe_int pa_nil)))))
    (pss_one (ps_expr (ke_bm K PySem.F.plainAttrs_list PySem.F.slot_list_append PySem.F.type_list_append mt_append (pv 10) (pa_cons (pe_tup (pa_cons (pv 12) (pa_cons (pe_call (ok_law_gains T) (hr.mono (by decide)) (by rfl) T.m_law_gains T.F_law_gains.kp (b_law_gains T) .nil pass0 (pa_cons (pv 0) (pa_cons (pv 4) pa_nil))) pa_nil))) pa_nil))))))
    (pss_one (ps_expr (ke_bm K PySem.F.plainAttrs_list PySem.F.slot_list_append PySem.F.type_list_append mt_append (pv 8) (pa_cons (pe_callTy (kc_tuple K) (by rfl) T.z_tuple bt_tuple (pa_cons (pv 10) pa_nil)) pa_nil)))))))
    (pss_one (ps_ret (pe_tup (pa_cons (pe_tup (pa_cons (pv 5) (pa_cons (pv 4) (pa_cons (pe_callTy (kc_tuple K) (by rfl) T.z_tuple bt_tuple (pa_cons (pv 8) pa_nil)) pa_nil)))) (pa_cons (pv 6) pa_nil))))))))), ?_⟩)
  obtain ⟨p, sz, sm, zl, ml, rfl, hp, tz, tm, nz, nm, zl1, ml1, zk, mk, k⟩ := h
  have a3 : sizeLine = 16777216 := sizeLine_eq
  walk_at "g"
  refine ⟨p, sz, iv zl, rfl, hp, tz, by unfold iv; simpa using nz, by rw [iv_len]; exact zl1, fun v1 H1 hv1 f1 => ?_⟩
  obtain ⟨n, hn, rfl⟩ := mem_iv hv1
  obtain ⟨n1, n4⟩ := zk n hn
  walk_at "g"
  refine ⟨by show 6 ≤ sizeLine; decide, fun t1 ht1 => ?_⟩
  have f2 := f1.new (o := .tup [.int 1, .int 1, .int 2, .int 3, .int 1, .int 2]) ht1
  walk_at "g"
  refine ⟨p, t1, iv [1, 1, 2, 3, 1, 2], rfl, f2.2, .of upd_same, (fun z => by cases z), by show 6 ≤ 1000; decide, fun v2 H3 hv2 f3 => ?_⟩
  obtain ⟨pays, hpay, rfl⟩ := mem_iv hv2
  have p4 : 1 ≤ pays ∧ pays ≤ 4 := by
    have : ∀ x ∈ ([1, 1, 2, 3, 1, 2] : List Nat), 1 ≤ x ∧ x ≤ 4 := by decide
    exact this pays hpay
  have f03 := f2.trans f3
  walk_at "g"
  refine ⟨p, rfl, f3.2, fun vsh sh H4 f4 hsh s0 s1 s2 => ?_⟩
  have f04 := f03.trans f4
  walk_at "g"
  refine ⟨p, n, rfl, f4.2, n1, n4, fun vm marks H5 f5 hm lm mo => ?_⟩
  have f05 := f04.trans f5
  obtain ⟨ma, mo2, mus, rfl, hma, oc, od, lma⟩ := id hm
  have e1 := isl_len lma
  have mne : marks ≠ [] := fun z => by rw [z] at lm; simp at lm; omega
  have mt := mo.m2 _ (mtop_mem mne)
  walk_at "g"
  refine ⟨by show 0 ≤ sizeLine; decide, fun da hda => ?_⟩
  walk_at "g"
  refine ⟨by show 0 ≤ sizeLine; decide, fun sa hsa => ?_⟩
  have s6 := (same_new (o := .lst []) hda).trans (same_new (o := .lst []) hsa)
  have nda : da ≠ p := f5.2.ne hda
  have da0 : H5 da = none := hda
  have sa0 : H5 sa = none := (same_new (o := .lst []) hda).free hsa
  have nsa : sa ≠ p := f5.2.ne sa0
  have nsd : sa ≠ da := fun z => by rw [z, upd_same] at hsa; cases hsa
  walk_at "g"
  refine x_maxM (TupA.frz (s6 _ _ hma)) (TpAll.mono (kp_same s6) lma) mne ?_
  walk_at "g"
  refine ⟨(mmany marks : Nat), rfl, by unfold mmany; omega, by unfold mmany; omega, for_it walk_range (fun i σ' H' => ∃ (y9 : Option V) (dl : List Nat), σ' = [some (.ref p), some (.ref sz), some (.ref sm), some (.int n), some (.int pays), some vsh, some (.ref ma), some (.ref da), some (.ref sa), y9, none, none, none] ∧ PF p H5 H' ∧ H' da = some (.lst (iv dl)) ∧ H' sa = some (.lst []) ∧ dl.length = i ∧ ∀ k ∈ dl, k ∈ ml)
    ⟨none, [], rfl, .of s6 f5.2, same_new hsa _ _ upd_same, upd_same, rfl, fun q hq => by cases hq⟩ (fun i σ' H' _ _ => trivial) ?_ ?_⟩
  · rintro i x σ' H6 H7 hi ⟨y9, dl, rfl, f6, g1, g2, e2, b2⟩ ⟨rfl, rfl⟩
    have f06 := f05.trans f6
    have hi2 : i < mmany marks := hi
    refine x_name ?_
    walk_at "g"
    refine ⟨.inl ⟨rfl, _, SqL.of g1⟩, ?_⟩
    walk_at "g"
    refine ⟨p, sm, iv ml, rfl, f6.2, tm.mono (f06.kp hp), by unfold iv; simpa using nm, by rw [iv_len]; exact ml1, fun v3 H8 hv3 f8 => ?_⟩
    obtain ⟨c, hc, rfl⟩ := mem_iv hv3
    have g1' := f8.lst g1 nda
    have g2' := f8.lst g2 nsa
    walk_at "g"
    refine ⟨da, iv dl, _, rfl, rfl, g1', by rw [iv_len]; unfold mmany at hi2; omega, ?_⟩
    refine ⟨_, dl ++ [c], rfl, (f6.trans f8).mut da0 nda, ?_, by rw [upd_ne nsd]; exact g2', by rw [List.length_append, e2]; rfl, fun z hz => ?_⟩
    · rw [upd_same]
      unfold iv
      rw [List.map_append]
      rfl
    · rcases List.mem_append.mp hz with q1 | q1
      · exact b2 z q1
      · rw [List.mem_singleton.mp q1]; exact hc
  · rintro σ' H6 ⟨y9, dl, rfl, f6, g1, g2, e2, b2⟩
    have e2 : dl.length = mmany marks := e2
    walk_at "g"
    have tma : ∀ H', PF p H5 H' → SqX K true H' ma mus := fun H' f => TupA.mono (f.kp f5.2) (TupA.frz (K := K) hma)
    refine ⟨ma, rfl, ⟨mus, tma _ f6⟩, for_it (walk_s true) (fun i σ' H' => ∃ (y9 y10 y11 y12 : Option V) (sus : List V) (st : List (List Deed)), σ' = [some (.ref p), some (.ref sz), some (.ref sm), some (.int n), some (.int pays), some vsh, some (.ref ma), some (.ref da), some (.ref sa), y9, y10, y11, y12] ∧ PF p H5 H' ∧ H' da = some (.lst (iv dl)) ∧ H' sa = some (.lst sus) ∧ IsL K H' sus st ∧ st.length = i ∧
        ∀ (j : Nat) s, st[j]? = some s → StandS n pays s ∧ ∀ m, marks[j]? = some m → s.length = dl.getD m 0)
      ⟨_, _, _, _, [], [], rfl, f6, g1, g2, .nil, rfl, fun j s z => by simp at z⟩ (fun i σ' H' _ ⟨_, _, _, _, _, _, _, f, _⟩ => tma _ f) ?_ ?_⟩
    · rintro i x σ' H7 H8 hi ⟨y9, y10, y11, y12, sus, st, rfl, f7, gd, gs, ls, le, hst⟩ ⟨rfl, gx⟩
      obtain ⟨m, gm, hmm⟩ := isl_get lma gx
      have lmm := mtop_ge (List.mem_of_getElem? gm)
      cases is_nat hmm
      have dm : m < dl.length := by rw [e2]; unfold mmany; omega
      have gdl := List.getElem?_eq_getElem dm
      have gD : dl.getD m 0 = dl[m] := by rw [List.getD_eq_getElem?_getD, gdl]; rfl
      obtain ⟨dlo, dhi⟩ := mk _ (b2 _ (List.getElem_mem dm))
      have sl := isl_len ls
      refine x_name ?_
      walk_at "g"
      refine ⟨by show 0 ≤ sizeLine; decide, fun fa hfa => ?_⟩
      have nfa : fa ≠ p := f7.2.ne hfa
      have gd2 := same_new (o := .lst []) hfa _ _ gd
      walk_at "g"
      refine x_ixl m gd2 (x := .int (dl[m] : Nat)) ?_ ?_
      · unfold iv
        rw [List.getElem?_map, gdl]
        rfl
      refine ⟨_, rfl, by omega, by omega, for_it walk_range (fun j σ' H' => ∃ (y11 y12 : Option V) (fus : List V) (ds : List Deed), σ' = [some (.ref p), some (.ref sz), some (.ref sm), some (.int n), some (.int pays), some vsh, some (.ref ma), some (.ref da), some (.ref sa), some (.int m), some (.ref fa), y11, y12] ∧ PF p _ H' ∧ H' fa = some (.lst fus) ∧ IsL K H' fus ds ∧ ds.length = j ∧ ∀ d ∈ ds, DeedS n pays d)
        ⟨_, _, [], [], rfl, .of (same_new hfa) f7.2, upd_same, .nil, rfl, fun q hq => by cases hq⟩ (fun i σ' H' _ _ => trivial) ?_ ?_⟩
      · rintro j x σ' H9 H10 hj ⟨y11, y12, fus, ds, rfl, f9, gf, lf, lj, bd⟩ ⟨rfl, rfl⟩
        have fl := isl_len lf
        refine x_name ?_
        walk_at "g"
        refine ⟨p, n, rfl, f9.2, n1, by omega, fun vc ch H11 f11 hch c1 c2 c3 => ?_⟩
        walk_at "g"
        have gf1 := f11.lst gf nfa
        refine ⟨.inl ⟨rfl, _, SqL.of gf1⟩, ?_⟩
        walk_at "g"
        refine ⟨p, pays, rfl, f11.2, p4.2, fun vg gl H12 f12 hgl lgl bgl => ?_⟩
        have gf2 := f12.lst gf1 nfa
        walk_at "g"
        refine ⟨by show 2 ≤ sizeLine; decide, fun q hq => ?_⟩
        have s13 := same_new (o := .tup [vc, vg]) hq
        walk_at "g"
        refine ⟨fa, fus, .ref q, rfl, rfl, s13 _ _ gf2, by omega, ?_⟩
        have k14 : Kp (upd H12 q (.tup [vc, vg])) (upd (upd H12 q (.tup [vc, vg])) fa (.lst (fus ++ [.ref q]))) := kp_upd (s13 _ _ gf2) id
        have k12 := (f11.kp f9.2).trans (f12.kp f11.2)
        refine ⟨_, _, fus ++ [.ref q], ds ++ [(ch, gl)], rfl, (((f9.trans f11).trans f12).add s13).mut hfa nfa, upd_same, isl_app (TpAll.mono ((k12.trans (kp_same s13)).trans k14) lf) (isl_one ?_), by rw [List.length_append, lj]; rfl, fun z hz => ?_⟩
        · exact is_pair_mk (p := (ch, gl)) (TupA.mono k14 (.of upd_same)) (Tp.mono (((f12.kp f11.2).trans (kp_same s13)).trans k14) hch) (Tp.mono ((kp_same s13).trans k14) hgl)
        · rcases List.mem_append.mp hz with q1 | q1
          · exact bd z q1
          · rw [List.mem_singleton.mp q1]
            exact ⟨⟨c1, lgl⟩, c2, c3, bgl⟩
      · rintro σ' H9 ⟨y11, y12, fus, ds, rfl, f9, gf, lf, lj, bd⟩
        have lj : ds.length = dl[m] := lj
        have gs9 := f9.lst gs nsa
        have gd9 := f9.lst gd nda
        walk_at "g"
        refine ⟨.inl ⟨rfl, _, SqL.of gs9⟩, ?_⟩
        walk_at "g"
        refine ⟨fa, fus, rfl, .inl ⟨SqL.of gf, fun t o nt oc od => ?_⟩⟩
        have s10 := same_new (o := .frz o (.tup fus)) nt
        walk_at "g"
        refine ⟨sa, sus, .ref t, rfl, rfl, s10 _ _ gs9, by omega, ?_⟩
        have k11 : Kp (upd H9 t (.frz o (.tup fus))) (upd (upd H9 t (.frz o (.tup fus))) sa (.lst (sus ++ [.ref t]))) := kp_upd (s10 _ _ gs9) id
        refine ⟨_, _, _, _, sus ++ [.ref t], st ++ [ds], rfl, ((f7.trans f9).add s10).mut sa0 nsa, ?_, upd_same, isl_app (TpAll.mono (((f9.kp f7.2).trans (kp_same s10)).trans k11) ls) (isl_one ?_), by rw [List.length_append, le]; rfl, fun j s z => ?_⟩
        · rw [upd_ne (Ne.symm nsd)]
          exact s10 _ _ gd9
        · exact is_list_mk (TupA.mono k11 (TupA.frz (K := K) (o := o) upd_same)) (TpAll.mono ((kp_same s10).trans k11) lf)
        · rcases Nat.lt_trichotomy j st.length with q | q | q
          · rw [List.getElem?_append_left q] at z
            exact hst j s z
          · subst q
            rw [List.getElem?_append_right (Nat.le_refl _), Nat.sub_self] at z
            cases z
            refine ⟨⟨by omega, by omega, bd⟩, fun m2 g => ?_⟩
            rw [le, gm] at g
            cases g
            rw [gD]
            exact lj
          · rw [List.getElem?_eq_none (by rw [List.length_append]; show st.length + 1 ≤ j; omega)] at z
            cases z
    · rintro σ' H7 ⟨y9, y10, y11, y12, sus, st, rfl, f7, gd, gs, ls, le, hst⟩
      rw [e1] at le
      walk_at "g"
      refine ⟨sa, sus, rfl, .inl ⟨SqL.of gs, fun t o nt oc2 od2 => ?_⟩⟩
      have s8 := same_new (o := .frz o (.tup sus)) nt
      walk_at "g"
      refine ⟨by show 3 ≤ sizeLine; decide, fun q1 hq1 => ?_⟩
      have s9 := same_new (o := .tup [vsh, .int (pays : Nat), .ref t]) hq1
      walk_at "g"
      refine ⟨by show 2 ≤ sizeLine; decide, fun q2 hq2 => ?_⟩
      have s10 := same_new (o := .tup [.ref q1, .ref ma]) hq2
      have f70 := f05.trans f7
      have s80 := (s8.trans s9).trans s10
      have k5 := ((f5.kp f4.2).trans (f7.kp f5.2)).trans (kp_same s80)
      have kma := f7.kp f5.2
      have stl : st.length = n := by omega
      have hall : ∀ s ∈ st, StandS st.length pays s := fun s hs => by
        obtain ⟨j, hj⟩ := List.getElem?_of_mem hs
        rw [stl]
        exact (hst j s hj).1
      obtain ⟨ho, hz⟩ := house_ok (h := ⟨sh, pays, st⟩) s0 s1 s2 p4.1 p4.2 (by show 1 ≤ st.length; omega) (by show st.length ≤ 8; omega) hall
      have evn : ∀ (s m : Nat), marks[s]? = some m → (st.getD s []).length = dl.getD m 0 := fun s m g => by
        have l1 := (List.getElem?_eq_some_iff.mp g).1
        have g2 := List.getElem?_eq_getElem (show s < st.length by omega)
        rw [List.getD_eq_getElem?_getD, g2]
        exact (hst s _ g2).2 m g
      refine k _ (⟨sh, pays, st⟩, marks) _ (f70.add s80) ⟨q2, _, _, rfl, .of upd_same, ?_, ma, mo2, mus, rfl, ?_, oc, od, TpAll.mono (kma.trans (kp_same s80)) lma⟩ ⟨ho, by show marks.length = st.length; omega, mo.m2, mo.all, fun s m g => ?_⟩ hz (by show st.length ≤ 4; omega) (fun s hs => ?_)
      · refine is_house_mk (h := ⟨sh, pays, st⟩) (TupA.mono (kp_same s10) (.of upd_same)) (Tp.mono k5 hsh) (.int _) (is_list_mk (TupA.mono (kp_same (s9.trans s10)) (TupA.frz (K := K) (o := o) upd_same)) (TpAll.mono (kp_same s80) ls))
      · exact s80 _ _ (f7.1 _ _ (fun z => by rw [z] at hma; obtain ⟨_, _, _, q, _⟩ := f5.2; rw [q] at hma; cases hma) hma)
      · have g1 := evn s m g
        have hm := List.mem_of_getElem? g
        have g2 : marks[marks.idxOf m]? = some m := by
          rw [List.getElem?_eq_getElem (List.idxOf_lt_length_iff.mpr hm)]
          rw [List.getElem_idxOf]
        have g3 := evn (marks.idxOf m) m g2
        show (st.getD s []).length = (st.getD (marks.idxOf m) []).length
        rw [g1, g3]
      · obtain ⟨j, hj⟩ := List.getElem?_of_mem hs
        have l1 : j < st.length := (List.getElem?_eq_some_iff.mp hj).1
        have g := List.getElem?_eq_getElem (show j < marks.length by omega)
        rw [(hst j s hj).2 _ g]
        have dm : marks[j] < dl.length := by
          have := mtop_ge (List.getElem_mem (l := marks) (show j < marks.length by omega))
          rw [e2]; unfold mmany; omega
        rw [List.getD_eq_getElem?_getD, List.getElem?_eq_getElem dm]
        exact b2 _ (List.getElem_mem dm)
end
end K66

/-! L3c: any house, the law's worths by the clock (own work) -/
namespace K66
open PySem PySem.Spec PyProof.Rows L2
local macro_rules | `(tactic| walk_at "kp") => `(tactic| first
  | exact Kp.refl _
  | assumption
  | (refine Kp.trans (by assumption) ?_; walk_at "kp")
  | (refine Kp.trans (kp_same (by assumption)) ?_; walk_at "kp"))
local macro_rules | `(tactic| walk_at "is") => `(tactic| first
  | assumption
  | (refine Tp.mono ?_ (by assumption); walk_at "kp"))
local macro_rules | `(tactic| walk_at "x") => `(tactic| with_reducible first
  | refine x_seq ?_ | refine x_ret ?_ | refine x_asg ?_ | refine x_ifs ?_ | refine x_drop ?_ | refine x_next ?_ | refine x_call ?_ | refine x_cb ?_ | refine x_cons ?_ | refine x_nil ?_
  | refine x_op ?_ | refine x_un ?_ | refine x_c ?_ | refine x_i0 ?_ | refine x_u ?_ | refine x_eqI ?_ | refine x_neI ?_ | refine x_test ?_ | refine x_tb ?_ | refine x_bl ?_ | refine x_not ?_
  | refine x_and ?_ | refine x_or ?_ | refine x_andV ?_ | refine x_orV ?_ | refine x_notV ?_ | refine x_if ?_ | refine x_tup ?_ | refine x_lst ?_ | refine x_name ?_ | refine x_gcd ?_ | refine x_for ?_ | refine x_par ?_ | refine x_par3 ?_ | refine x_two ?_ | refine x_three ?_ | refine x_lcd ?_ | refine x_yes ?_ | refine x_isq ?_ | refine x_izip ?_ | refine x_ienum ?_ | refine x_irng ?_ | refine x_kt ?_ | refine x_isiI ?_ | refine x_isiB ?_ | refine x_chain ?_ | refine x_sl ?_ | refine x_part ?_ | refine x_nopart ?_ | refine x_isint ?_ | refine x_bm ?_ | refine x_tix ?_ )
local macro_rules | `(tactic| walk_at "v") => `(tactic| ((with_reducible refine x_var (v := ?kv) ?k1 ?_); (case k1 => exact rfl)))
local macro_rules | `(tactic| walk_at "n") => `(tactic| first
  | ((with_reducible refine x_num (q := ?kv) ?k1 ?_); (case k1 => walk_at "is"))
  | ((with_reducible refine x_den (q := ?kv) ?k1 ?_); (case k1 => walk_at "is")))
local macro_rules | `(tactic| walk_at "m") => `(tactic| ((with_reducible refine x_i ?k1 ?_); (case k1 => first | exact mw_nd (by assumption) (by assumption) | exact mw_nn (by assumption) (by assumption) | exact mw_dd (by assumption) (by assumption))))
local macro_rules | `(tactic| walk_at "tu") => `(tactic| first
  | assumption
  | (refine TupA.mono ?_ (by assumption); walk_at "kp"))
local macro_rules | `(tactic| walk_at "i") => `(tactic| first
  | ((with_reducible refine x_ix0 (us := ?ku) (v := ?kv) ?k1 ?k2 ?_); (case k1 => walk_at "tu"); (case k2 => exact rfl))
  | ((with_reducible refine x_ix1 (us := ?ku) (v := ?kv) ?k1 ?k2 ?_); (case k1 => walk_at "tu"); (case k2 => exact rfl))
  | ((with_reducible refine x_ix2 (us := ?ku) (v := ?kv) ?k1 ?k2 ?_); (case k1 => walk_at "tu"); (case k2 => exact rfl)))
local macro_rules | `(tactic| walk_at "ht") => `(tactic| refine x_t (by first | rfl | (simp; done) | (simp; omega)) ?_)
local macro_rules | `(tactic| walk_at "hf") => `(tactic| refine x_f (by first | rfl | (simp; done) | (simp; omega)) ?_)
local macro_rules | `(tactic| walk_at "g") => `(tactic| repeat (first | walk_at "x" | walk_at "v" | walk_at "n" | walk_at "i" | walk_at "m" | ((with_reducible refine x_f ?k1 ?_); (case k1 => exact rfl)) | ((with_reducible refine x_t ?k1 ?_); (case k1 => exact rfl))))

local macro_rules | `(tactic| walk_at "y") => `(tactic| with_reducible first
  | refine x_int1 ?_ | refine x_absI ?_ | refine x_dvm ?_ | refine x_lrg ?_ | refine x_rg1 ?_ | refine x_gsub ?_ | refine x_max2 ?_ | refine x_min2 ?_ | refine x_w0 ?_)
local macro_rules | `(tactic| walk_at "o") => `(tactic| ((with_reducible refine x_i ?k1 ?_); (case k1 => first | exact cmul_l (by decide) (by decide) | exact cmul_r (by decide) (by decide) | exact cmod_p (by decide) | exact cdiv_p (by decide) (by decide))))
local macro_rules | `(tactic| walk_at "g") => `(tactic| repeat (first | walk_at "x" | walk_at "v" | walk_at "y" | walk_at "n" | walk_at "i" | walk_at "m" | walk_at "o" | ((with_reducible refine x_f ?k1 ?_); (case k1 => exact rfl)) | ((with_reducible refine x_t ?k1 ?_); (case k1 => exact rfl))))

section
variable {P : Program} {w : World} {K : PySem.W.Frag} {mg : Str → Option Value} {base : Heap}
theorem ok_law_any_house (T : Tx K mg) : FnOk P w K mg base CX0 4 (He.ga K "_law_any_house") (fdAt K (He.ga K "_law_any_house")) ["_law_pot_here", "_law_sizes"] (sp_law_any_house K) := by
  refine FunD.ok T.F_law_any_house sc_law_any_house (fun vs H Q E h => by obtain ⟨p, sz, zl, rfl, _⟩ := h; rfl) (fun cdv A outer s H vs Q E hr h => ⟨_, PSs.nox (pss_cons (ps_par3 (i := 2) (j := 3) (l := 4) rfl sc_law_any_house.nd rfl rfl rfl (by decide) (by decide) (by decide) rfl rfl rfl (pa_cons (pe_call (ok_law_pick T) (hr.mono (by decide)) (by rfl) T.m_law_pick T.F_law_pick.kp (b_law_pick T) .nil pass0 (pa_cons (pv 0) (pa_cons (pv 1) pa_nil))) (pa_cons (pe_call (ok_law_pick T) (hr.mono (by decide)) (by rfl) T.m_law_pick T.F_law_pick.kp (b_law_pick T) .nil pass0 (pa_cons (pv 0) (pa_cons (pe_tup (pa_cons pe_int (pa_cons pe_int (pa_cons pe_int (pa_cons pe_int (pa_cons pe_int (pa_cons pe_int (pa_cons pe_int pa_nil)))))))) pa_nil))) (pa_cons (pe_call (ok_law_share T) (hr.mono (by decide)) (by rfl) T.m_law_share T.F_law_share.kp (b_law_share T) .nil pass0 (pa_cons (pv 0) pa_nil)) pa_nil))) (by rfl))
    (pss_cons (ps_set (i := 5) sc_law_any_house.nd rfl (by first | exact Or.inl rfl | exact Or.inr rfl) (pe_lst pa_nil))
    (pss_cons (ps_for PassesOwn.never rfl (pi_range1 rfl T.z_range (pa_cons (pv 2) pa_nil)) (pg_name (i := 6) sc_law_any_house.nd rfl (by first | exact Or.inl rfl | exact Or.inr rfl) (Or.inl rfl)) (pss_cons (ps_set (i := 7) sc_law_any_house.nd rfl (by first | exact Or.inl rfl | exact Or.inr rfl) (pe_lst pa_nil))
    (pss_cons (ps_for PassesOwn.never rfl (pi_range1 rfl T.z_range (pa_cons (pe_call (ok_law_pick T) (hr.mono (by decide)) (by rfl) T.m_law_pick T.F_law_pick.kp (b_law_pick T) .nil pass0 (pa_cons (pv 0) (pa_cons (pe_tup (pa_cons pe_int (pa_cons pe_int (pa_cons pe_int (pa_cons pe_int (pa_cons pe_int (pa_cons pe_int (pa_cons pe_int (pa_cons pe_int pa_nil))))))))) pa_nil))) pa_nil)) (pg_name (i := 8) sc_law_any_house.nd rfl (by first | exact Or.inl rfl | exact Or.inr rfl) (Or.inl rfl)) (pss_cons (ps_set (i := 9) sc_law_any_house.nd rfl (by first | exact Or.inl rfl | exact Or.inr rfl) (pe_call (ok_law_chances T) (hr.mono (by decide)) (by rfl) T.m_law_chances T.F_law_chances.kp (b_law_chances T) .nil pass0 (pa_cons (pv 0) (pa_cons (pv 2) (pa_cons pe_int pa_nil)))))
    (pss_one (ps_expr (ke_bm K PySem.F.plainAttrs_list PySem.F.slot_list_append PySem.F.type_list_append mt_append (pv 7) (pa_cons (pe_tup (pa_cons (pv 9) (pa_cons (pe_call (ok_law_gains T) (hr.mono (by decide)) (by rfl) T.m_law_gains T.F_law_gains.kp (b_law_gains T) .nil pass0 (pa_cons (pv 0) (pa_cons (pv 3) pa_nil))) pa_nil))) pa_nil))))))
    (pss_one (ps_expr (ke_bm K PySem.F.plainAttrs_list PySem.F.slot_list_append PySem.F.type_list_append mt_append (pv 5) (pa_cons (pe_callTy (kc_tuple K) (by rfl) T.z_tuple bt_tuple (pa_cons (pv 7) pa_nil)) pa_nil)))))))
    (pss_one (ps_ret (pe_tup (pa_cons (pv 4) (pa_cons (pv 3) (pa_cons (pe_callTy (kc_tuple K) (by rfl) T.z_tuple bt_tuple (pa_cons (pv 5) pa_nil)) pa_nil))))))))), ?_⟩)
  obtain ⟨p, sz, zl, rfl, hp, tz, nz, zl1, zk, k⟩ := h
  have a3 : sizeLine = 16777216 := sizeLine_eq
  walk_at "g"
  refine ⟨p, sz, iv zl, rfl, hp, tz, by unfold iv; simpa using nz, by rw [iv_len]; exact zl1, fun v1 H1 hv1 f1 => ?_⟩
  obtain ⟨n, hn, rfl⟩ := mem_iv hv1
  obtain ⟨n1, n4⟩ := zk n hn
  walk_at "g"
  refine ⟨by show 7 ≤ sizeLine; decide, fun t1 ht1 => ?_⟩
  have f2 := f1.new (o := .tup [.int 1, .int 1, .int 2, .int 3, .int 1, .int 2, .int 4]) ht1
  walk_at "g"
  refine ⟨p, t1, iv [1, 1, 2, 3, 1, 2, 4], rfl, f2.2, .of upd_same, (fun z => by cases z), by show 7 ≤ 1000; decide, fun v2 H3 hv2 f3 => ?_⟩
  obtain ⟨pays, hpay, rfl⟩ := mem_iv hv2
  have p4 : 1 ≤ pays ∧ pays ≤ 4 := by
    have : ∀ x ∈ ([1, 1, 2, 3, 1, 2, 4] : List Nat), 1 ≤ x ∧ x ≤ 4 := by decide
    exact this pays hpay
  have f03 := f2.trans f3
  walk_at "g"
  refine ⟨p, rfl, f3.2, fun vsh sh H4 f4 hsh s0 s1 s2 => ?_⟩
  have f04 := f03.trans f4
  walk_at "g"
  refine ⟨by show 0 ≤ sizeLine; decide, fun sa hsa => ?_⟩
  have nsa : sa ≠ p := f4.2.ne hsa
  walk_at "g"
  refine ⟨n, rfl, by omega, by omega, for_it walk_range (fun i σ' H' => ∃ (y6 y7 y8 y9 : Option V) (sus : List V) (st : List (List Deed)), σ' = [some (.ref p), some (.ref sz), some (.int n), some (.int pays), some vsh, some (.ref sa), y6, y7, y8, y9] ∧ PF p H4 H' ∧ H' sa = some (.lst sus) ∧ IsL K H' sus st ∧ st.length = i ∧ ∀ s ∈ st, StandS n pays s)
    ⟨none, none, none, none, [], [], rfl, .of (same_new hsa) f4.2, upd_same, .nil, rfl, fun q hq => by cases hq⟩ (fun i σ' H' _ _ => trivial) ?_ ?_⟩
  · rintro i x σ' H7 H8 hi ⟨y6, y7, y8, y9, sus, st, rfl, f7, gs, ls, le, hst⟩ ⟨rfl, rfl⟩
    have sl := isl_len ls
    refine x_name ?_
    walk_at "g"
    refine ⟨by show 0 ≤ sizeLine; decide, fun fa hfa => ?_⟩
    have nfa : fa ≠ p := f7.2.ne hfa
    walk_at "g"
    refine ⟨by show 8 ≤ sizeLine; decide, fun t2 ht2 => ?_⟩
    have s8 := (same_new (o := .lst []) hfa).trans (same_new (o := .tup [.int 1, .int 2, .int 2, .int 3, .int 2, .int 3, .int 1, .int 4]) ht2)
    have gf0 := same_new (o := .tup [.int 1, .int 2, .int 2, .int 3, .int 2, .int 3, .int 1, .int 4]) ht2 fa _ upd_same
    have f8 := PF.of s8 f7.2
    walk_at "g"
    refine ⟨p, t2, iv [1, 2, 2, 3, 2, 3, 1, 4], rfl, f8.2, .of upd_same, (fun z => by cases z), by show 8 ≤ 1000; decide, fun v2 H9 hv2 f9 => ?_⟩
    obtain ⟨dn, hdn, rfl⟩ := mem_iv hv2
    have d4 : 1 ≤ dn ∧ dn ≤ 4 := by
      have : ∀ x ∈ ([1, 2, 2, 3, 2, 3, 1, 4] : List Nat), 1 ≤ x ∧ x ≤ 4 := by decide
      exact this dn hdn
    have gf1 := f9.lst gf0 nfa
    walk_at "g"
    refine ⟨dn, rfl, by omega, by omega, for_it walk_range (fun j σ' H' => ∃ (y8 y9 : Option V) (fus : List V) (ds : List Deed), σ' = [some (.ref p), some (.ref sz), some (.int n), some (.int pays), some vsh, some (.ref sa), some (.int (0 + (i : Nat))), some (.ref fa), y8, y9] ∧ PF p _ H' ∧ H' fa = some (.lst fus) ∧ IsL K H' fus ds ∧ ds.length = j ∧ ∀ d ∈ ds, DeedS n pays d)
      ⟨_, _, [], [], rfl, f8.trans f9, gf1, .nil, rfl, fun q hq => by cases hq⟩ (fun i σ' H' _ _ => trivial) ?_ ?_⟩
    · rintro j x σ' H9 H10 hj ⟨y8, y9, fus, ds, rfl, f9, gf, lf, lj, bd⟩ ⟨rfl, rfl⟩
      have fl := isl_len lf
      refine x_name ?_
      walk_at "g"
      refine ⟨p, n, rfl, f9.2, n1, by omega, fun vc ch H11 f11 hch c1 c2 c3 => ?_⟩
      walk_at "g"
      have gf1 := f11.lst gf nfa
      refine ⟨.inl ⟨rfl, _, SqL.of gf1⟩, ?_⟩
      walk_at "g"
      refine ⟨p, pays, rfl, f11.2, p4.2, fun vg gl H12 f12 hgl lgl bgl => ?_⟩
      have gf2 := f12.lst gf1 nfa
      walk_at "g"
      refine ⟨by show 2 ≤ sizeLine; decide, fun q hq => ?_⟩
      have s13 := same_new (o := .tup [vc, vg]) hq
      walk_at "g"
      refine ⟨fa, fus, .ref q, rfl, rfl, s13 _ _ gf2, by omega, ?_⟩
      have k14 : Kp (upd H12 q (.tup [vc, vg])) (upd (upd H12 q (.tup [vc, vg])) fa (.lst (fus ++ [.ref q]))) := kp_upd (s13 _ _ gf2) id
      have k12 := (f11.kp f9.2).trans (f12.kp f11.2)
      refine ⟨_, _, fus ++ [.ref q], ds ++ [(ch, gl)], rfl, (((f9.trans f11).trans f12).add s13).mut hfa nfa, upd_same, isl_app (TpAll.mono ((k12.trans (kp_same s13)).trans k14) lf) (isl_one ?_), by rw [List.length_append, lj]; rfl, fun z hz => ?_⟩
      · exact is_pair_mk (p := (ch, gl)) (TupA.mono k14 (.of upd_same)) (Tp.mono (((f12.kp f11.2).trans (kp_same s13)).trans k14) hch) (Tp.mono ((kp_same s13).trans k14) hgl)
      · rcases List.mem_append.mp hz with q1 | q1
        · exact bd z q1
        · rw [List.mem_singleton.mp q1]
          exact ⟨⟨c1, lgl⟩, c2, c3, bgl⟩
    · rintro σ' H9 ⟨y8, y9, fus, ds, rfl, f9, gf, lf, lj, bd⟩
      have lj : ds.length = dn := lj
      have gs9 := f9.lst gs nsa
      have hin : i < n := hi
      walk_at "g"
      refine ⟨.inl ⟨rfl, _, SqL.of gs9⟩, ?_⟩
      walk_at "g"
      refine ⟨fa, fus, rfl, .inl ⟨SqL.of gf, fun t o nt oc od => ?_⟩⟩
      have s10 := same_new (o := .frz o (.tup fus)) nt
      walk_at "g"
      refine ⟨sa, sus, .ref t, rfl, rfl, s10 _ _ gs9, by omega, ?_⟩
      have k11 : Kp (upd H9 t (.frz o (.tup fus))) (upd (upd H9 t (.frz o (.tup fus))) sa (.lst (sus ++ [.ref t]))) := kp_upd (s10 _ _ gs9) id
      refine ⟨_, _, _, _, sus ++ [.ref t], st ++ [ds], rfl, ((f7.trans f9).add s10).mut hsa nsa, upd_same, isl_app (TpAll.mono (((f9.kp f7.2).trans (kp_same s10)).trans k11) ls) (isl_one ?_), by rw [List.length_append, le]; rfl, fun s z => ?_⟩
      · exact is_list_mk (TupA.mono k11 (TupA.frz (K := K) (o := o) upd_same)) (TpAll.mono ((kp_same s10).trans k11) lf)
      · rcases List.mem_append.mp z with q1 | q1
        · exact hst s q1
        · rw [List.mem_singleton.mp q1]
          exact ⟨by omega, by omega, bd⟩
  · rintro σ' H7 ⟨y6, y7, y8, y9, sus, st, rfl, f7, gs, ls, le, hst⟩
    have le : st.length = n := le
    walk_at "g"
    refine ⟨sa, sus, rfl, .inl ⟨SqL.of gs, fun t o nt oc2 od2 => ?_⟩⟩
    have s8 := same_new (o := .frz o (.tup sus)) nt
    walk_at "g"
    refine ⟨by show 3 ≤ sizeLine; decide, fun q1 hq1 => ?_⟩
    have s9 := same_new (o := .tup [vsh, .int (pays : Nat), .ref t]) hq1
    have f70 := f04.trans f7
    have s80 := s8.trans s9
    have k5 := (f7.kp f4.2).trans (kp_same s80)
    obtain ⟨ho, hz⟩ := house_ok (h := ⟨sh, pays, st⟩) s0 s1 s2 p4.1 p4.2 (by show 1 ≤ st.length; omega) (by show st.length ≤ 8; omega) (by rw [show (House.mk sh pays st).st.length = n from le]; exact hst)
    exact k _ ⟨sh, pays, st⟩ _ (f70.add s80) (is_house_mk (h := ⟨sh, pays, st⟩) (.of upd_same) (Tp.mono k5 hsh) (.int _) (is_list_mk (TupA.mono (kp_same s9) (TupA.frz (K := K) (o := o) upd_same)) (TpAll.mono (kp_same s80) ls))) ho hz (by show st.length ∈ zl; rw [le]; exact hn)
theorem x_nought2 {n : Nat} {H : Hp} {p q : Addr} {Q : VK} (hz : H q = some (.tup [.int 0, .int 1])) (hp : H p = some (.tup [.ref q])) (h1 : 1 ≤ n) (h2 : n ≤ 1000) (k : ∀ v H', Same H H' → Is K H' v (List.replicate n (0 : Rat)) → Q v H') : rRepA K (.ref p) (.int n) H Q := by
  refine x_repT (.of hp) h1 h2 fun c H' e t => k _ _ e (is_list_mk t ?_)
  show TpAll K _ _ ((List.replicate n (0 : Rat)).map Enc.enc)
  rw [List.map_replicate]
  exact TpAll.rep (int_is 0 (.of (e _ _ hz))) n
theorem ok_law_timed (T : Tx K mg) : FnOk P w K mg base CX0 4 (He.ga K "_law_timed") (fdAt K (He.ga K "_law_timed")) ["_law_house", "_law_weights_here", "_law_many"] (sp_law_timed K) := by
  refine FunD.ok T.F_law_timed sc_law_timed (fun vs H Q E h => by obtain ⟨x, y, h, ws, n, rfl, _⟩ := h; rfl) (fun cdv A outer s H vs Q E hr h => ⟨_, PSs.nox (pss_cons (ps_set (i := 3) sc_law_timed.nd rfl (by first | exact Or.inl rfl | exact Or.inr rfl) (pe_lst (pa_cons (pe_op (ko_rep K) (pe_tup (pa_cons (pe_tup (pa_cons pe_int (pa_cons pe_int pa_nil))) pa_nil)) (pe_callB (kc_len K) (by rfl) T.z_len bt_len (pa_cons (pe_ix (ki_tup K) (pv 0) pe_int (fun _ _ => rfl)) pa_nil))) pa_nil)))
    (pss_cons (ps_for PassesOwn.never rfl (pi_range1 rfl T.z_range (pa_cons (pv 2) pa_nil)) (pg_name (i := 4) sc_law_timed.nd rfl (by first | exact Or.inl rfl | exact Or.inr rfl) (Or.inl rfl)) (pss_cons (ps_asg (pe_tup (pa_cons (pe_lst pa_nil) (pa_cons (pe_ix (ki_list K) (pv 3) (pe_un un_neg pe_int) (fun _ _ => rfl)) pa_nil))) (kg_tup K (n := 2) rfl (pgs_cons (pg_name (i := 5) sc_law_timed.nd rfl (by first | exact Or.inl rfl | exact Or.inr rfl) (Or.inl rfl)) (pgs_cons (pg_name (i := 6) sc_law_timed.nd rfl (by first | exact Or.inl rfl | exact Or.inr rfl) (Or.inl rfl)) pgs_nil))))
    (pss_cons (ps_for PassesOwn.never rfl (kp_sq K true (pe_ix (ki_tup K) (pv 0) pe_int (fun _ _ => rfl))) (pg_name (i := 7) sc_law_timed.nd rfl (by first | exact Or.inl rfl | exact Or.inr rfl) (Or.inl rfl)) (pss_cons (ps_set (i := 8) sc_law_timed.nd rfl (by first | exact Or.inl rfl | exact Or.inr rfl) (pe_lst pa_nil))
    (pss_cons (ps_for PassesOwn.never rfl (kp_sq K true (pv 7)) (kg_tup K (n := 2) rfl (pgs_cons (pg_name (i := 9) sc_law_timed.nd rfl (by first | exact Or.inl rfl | exact Or.inr rfl) (Or.inl rfl)) (pgs_cons (pg_name (i := 10) sc_law_timed.nd rfl (by first | exact Or.inl rfl | exact Or.inr rfl) (Or.inl rfl)) pgs_nil))) (pss_cons (ps_set (i := 11) sc_law_timed.nd rfl (by first | exact Or.inl rfl | exact Or.inr rfl) (pe_call (ok_law_total T) (hr.mono (by decide)) (by rfl) T.m_law_total T.F_law_total.kp (b_law_total T) .nil pass0 (pa_cons (pe_lc (own := [("_law_each", 12)]) rfl sc_law_timed.nd (kp_sq K true (pv 9)) (blkOk_by (by kernel_rfl)) (fun _ _ _ _ _ => (pg_name (i := 12) sc_law_timed.nd rfl (Or.inl rfl) (Or.inr rfl))) (fun _ _ _ _ _ => pts_nil) (fun _ _ _ _ _ => (pe_call (ok_law_times T) (hr.mono (by decide)) (by rfl) T.m_law_times T.F_law_times.kp (b_law_times T) .nil pass0 (pa_cons (pe_ix (ki_tup K) (pv 12) pe_int (fun _ _ => rfl)) (pa_cons (pe_ix (ki_tup K) (pv 6) (pe_ix (ki_tup K) (pv 12) pe_int (fun _ _ => rfl)) (fun _ _ => rfl)) pa_nil))))) pa_nil)))
    (pss_one (ps_expr (ke_bm K PySem.F.plainAttrs_list PySem.F.slot_list_append PySem.F.type_list_append mt_append (pv 8) (pa_cons (pe_call (ok_law_plus T) (hr.mono (by decide)) (by rfl) T.m_law_plus T.F_law_plus.kp (b_law_plus T) .nil pass0 (pa_cons (pe_call (ok_law_dot T) (hr.mono (by decide)) (by rfl) T.m_law_dot T.F_law_dot.kp (b_law_dot T) .nil pass0 (pa_cons (pv 1) (pa_cons (pv 10) pa_nil))) (pa_cons (pe_call (ok_law_times T) (hr.mono (by decide)) (by rfl) T.m_law_times T.F_law_times.kp (b_law_times T) .nil pass0 (pa_cons (pe_ix (ki_tup K) (pv 0) pe_int (fun _ _ => rfl)) (pa_cons (pv 11) pa_nil))) pa_nil))) pa_nil))))))
    (pss_one (ps_expr (ke_bm K PySem.F.plainAttrs_list PySem.F.slot_list_append PySem.F.type_list_append mt_append (pv 5) (pa_cons (pe_call (ok_law_end T) (hr.mono (by decide)) (by rfl) T.m_law_end T.F_law_end.kp (b_law_end T) .nil pass0 (pa_cons (pv 8) (pa_cons pe_bl pa_nil))) pa_nil)))))))
    (pss_one (ps_expr (ke_bm K PySem.F.plainAttrs_list PySem.F.slot_list_append PySem.F.type_list_append mt_append (pv 3) (pa_cons (pe_callTy (kc_tuple K) (by rfl) T.z_tuple bt_tuple (pa_cons (pv 5) pa_nil)) pa_nil)))))))
    (pss_one (ps_ret (pe_callTy (kc_tuple K) (by rfl) T.z_tuple bt_tuple (pa_cons (pv 3) pa_nil)))))), ?_⟩)
  obtain ⟨x, y, h, ws, n, rfl, hx, hy, tm, hn, k⟩ := h
  obtain ⟨a, x1, x2, x3, rfl, ta, h1, h2, h3⟩ := is_house hx
  obtain ⟨b, ss, rfl, tb, lb⟩ := is_list h3
  have a3 : sizeLine = 16777216 := sizeLine_eq
  have e1 := isl_len lb
  have n1 := tm.ho.n0
  have n8 := tm.ho.n1
  walk_at "g"
  refine ⟨by show 2 ≤ sizeLine; decide, fun z0 hz0 => ?_⟩
  walk_at "g"
  refine ⟨by show 1 ≤ sizeLine; decide, fun z1 hz1 => ?_⟩
  have sz1 := (same_new (o := .tup [.int 0, .int 1]) hz0).trans (same_new (o := .tup [.ref z0]) hz1)
  have ta1 := ta.mono (kp_same sz1)
  walk_at "g"
  refine x_lenT (tb.mono (kp_same sz1)) ?_
  walk_at "g"
  refine x_nought2 (same_new hz1 _ _ upd_same) upd_same (by omega) (by omega) fun v0 H1 s1 hv0 => ?_
  have s01 := sz1.trans s1
  walk_at "g"
  refine ⟨by show 1 ≤ sizeLine; decide, fun wa hwa => ?_⟩
  have na : H wa = none := s01.free hwa
  rw [e1] at hv0
  have s02 := s01.trans (same_new (o := .lst [v0]) hwa)
  walk_at "g"
  refine ⟨n, rfl, by omega, by omega, for_it walk_range (fun i σ' H' => ∃ (y4 y5 y6 y7 y8 y9 y10 y11 : Option V) (us : List V) (u : V), σ' = [some (.ref a), some y, some (.int n), some (.ref wa), y4, y5, y6, y7, y8, y9, y10, y11, none] ∧ Same H H' ∧ H' wa = some (.lst (us ++ [u])) ∧ IsL K H' us ((List.range i).map (wor h ws)) ∧ Is K H' u (wor h ws i))
    ⟨none, none, none, none, none, none, none, none, [], v0, rfl, s02, upd_same, .nil, Tp.mono (kp_same (same_new hwa)) hv0⟩ (fun i σ' H' _ _ => trivial) ?_ ?_⟩
  · rintro i x σ' H2 H3 hi ⟨y4, y5, y6, y7, y8, y9, y10, y11, us, u, rfl, e, hw, lus, hu⟩ ⟨rfl, rfl⟩
    have hi' : i < n := hi
    have ta2 := ta.mono (kp_same e)
    have tb2 := tb.mono (kp_same e)
    have usl := isl_len lus
    rw [List.length_map, List.length_range] at usl
    obtain ⟨lu, lus2, rfl, tlu, llu⟩ := is_list hu
    refine x_name ?_
    walk_at "g"
    refine ⟨by show 0 ≤ sizeLine; decide, fun ra hra => ?_⟩
    have sr := same_new (o := .lst []) hra
    walk_at "g"
    refine x_lastL (sr _ _ hw) ?_
    walk_at "g"
    refine ⟨by show 2 ≤ sizeLine; decide, fun pt hpt => ?_⟩
    refine x_gpair (.of upd_same) ?_
    have sr2 := sr.trans (same_new (o := .tup [.ref ra, .ref lu]) hpt)
    have gra := same_new (o := .tup [.ref ra, .ref lu]) hpt ra _ upd_same
    have ta3 := ta2.mono (kp_same sr2)
    have tb3 := tb2.mono (kp_same sr2)
    walk_at "g"
    refine ⟨b, rfl, ⟨ss, tb3.sqx⟩, for_it (walk_s true) (fun j σ' H' => ∃ (y7 y8 y9 y10 y11 : Option V) (rus : List V), σ' = [some (.ref a), some y, some (.int n), some (.ref wa), some (.int (0 + (i : Nat))), some (.ref ra), some (.ref lu), y7, y8, y9, y10, y11, none] ∧ Same _ H' ∧ H' ra = some (.lst rus) ∧ IsL K H' rus ((wor h ws (i + 1)).take j))
      ⟨_, _, _, _, _, [], rfl, sr2, gra, .nil⟩ (fun j σ' H' _ ⟨_, _, _, _, _, _, _, e, _⟩ => sqx_same e tb2.sqx) ?_ ?_⟩
    · rintro j x σ' H4 H5 hj ⟨y7, y8, y9, y10, y11, rus, rfl, e4, hr, lr⟩ ⟨rfl, gx⟩
      obtain ⟨ds, gd, hd⟩ := isl_get lb gx
      have md := List.mem_of_getElem? gd
      have l4 := (tm.ho.st ds md).hi
      have lo4 := (tm.ho.st ds md).lo
      obtain ⟨c, es, rfl, tc, lc⟩ := is_list hd
      have e2 := isl_len lc
      have e04 := e.trans e4
      have tc4 := tc.mono (kp_same e04)
      have rl := isl_len lr
      refine x_name ?_
      walk_at "g"
      refine ⟨by show 0 ≤ sizeLine; decide, fun fa hfa => ?_⟩
      have sf := same_new (o := .lst []) hfa
      have tc5 := tc4.mono (kp_same sf)
      walk_at "g"
      refine ⟨c, rfl, ⟨es, tc5.sqx⟩, for_it (walk_s true) (fun m σ' H' => ∃ (y9 y10 y11 : Option V) (fus : List V), σ' = [some (.ref a), some y, some (.int n), some (.ref wa), some (.int (0 + (i : Nat))), some (.ref ra), some (.ref lu), some (.ref c), some (.ref fa), y9, y10, y11, none] ∧ Same _ H' ∧ H' fa = some (.lst fus) ∧ IsL K H' fus ((ds.map (worth h ws (wor h ws i))).take m))
        ⟨_, _, _, [], rfl, sf, upd_same, .nil⟩ (fun m σ' H' _ ⟨_, _, _, _, _, e, _⟩ => sqx_same e tc4.sqx) ?_ ?_⟩
      · rintro m x σ' H6 H7 hm ⟨y9, y10, y11, fus, rfl, e6, hf, lf⟩ ⟨rfl, gx2⟩
        obtain ⟨d, gq, hq⟩ := isl_get lc gx2
        have mdd := List.mem_of_getElem? gq
        obtain ⟨q, g1, g2, rfl, tq, hg1, hg2⟩ := is_deedv hq
        obtain ⟨cc, ccs, rfl, tcc, lcc⟩ := is_list hg1
        have ccl := isl_len lcc
        have c8 := tm.hz.c8 ds md d mdd
        have dk := (tm.ho.st ds md).d d mdd
        have e46 := e4.trans e6
        have e06 := e.trans e46
        have av := tm.all i
        have vl := wor_len h ws i
        have pz := prod_so tm.hz md mdd (ee_pos i) av (ee_lt (n := i) (by omega)) (gg_lt (n := i) (by omega))
        have fl := isl_len lf
        refine x_gpair (tq.mono (kp_same e06)) ?_
        walk_at "g"
        have tcc6 := tcc.mono (kp_same e06)
        refine ⟨cc, rfl, ⟨ccs, tcc6.sqx⟩, x_lcL (K := K) (d.1.map fun c => c.2 * (wor h ws i).getD c.1 0) (walk_s true) (by rw [List.length_map, ccl]) (by omega) (fun H2 e => sqx_same e tcc6.sqx) yat_same ?_ ?_⟩
        · rintro i2 x y2 H8 H9 R N gy e8 ⟨rfl, gx3⟩ done
          obtain ⟨ch, gch, hch⟩ := isl_get lcc gx3
          rw [List.getElem?_map, gch] at gy
          cases gy
          obtain ⟨b5, w1, w2, rfl, tb5, r1, r2⟩ := is_pair hch
          have mp := List.mem_of_getElem? gch
          have lt := dk.c.lt ch mp
          have k8 := kp_same (e06.trans e8)
          cases is_nat r1
          have tb8 := tb5.mono k8
          refine x_name ⟨rfl, ?_⟩
          walk_at "g"
          refine x_atT (tlu.mono (kp_same (e46.trans e8))) (TpAll.mono (kp_same (e46.trans e8)) llu) (i := ch.1) (x := (wor h ws i).getD ch.1 0) (getD_at (by omega)) fun r hr2 => ?_
          walk_at "g"
          refine ⟨_, _, _, _, rfl, Tp.mono k8 r2, hr2, (tm.hz.ch ds md d mdd ch mp).small (p600 (by decide)) (p600 (by decide)), ?_, done⟩
          exact (av.mem (ee_pos i) ch.1).sz (lt3000 (ee_lt (by omega))) (lt3000 (gg_lt (by omega)))
        · intro L H8 us8 nL8 e8 hL8 il8
          walk_at "g"
          refine ⟨L, us8, _, rfl, hL8, il8, pz, fun r9 H9 e9 hr9 => ?_⟩
          have e69 := e8.trans e9
          have e09 := e06.trans e69
          walk_at "g"
          have hf9 := e69 _ _ hf
          refine ⟨.inl ⟨rfl, _, SqL.of hf9⟩, ?_⟩
          walk_at "g"
          refine ⟨_, _, _, _, rfl, Tp.mono (kp_same e09) hy, Tp.mono (kp_same e09) hg2, fun q hq => wsz (tm.wz q hq), fun q hq => wsz (tm.hz.g ds md d mdd q hq), Nat.le_trans tm.w4 (by decide), dot_so tm.wz (tm.hz.g ds md d mdd) tm.w4, fun r10 H10 e10 hr10 => ?_⟩
          have e010 := e09.trans e10
          have ta10 := ta.mono (kp_same e010)
          walk_at "g"
          refine ⟨_, _, _, _, rfl, Tp.mono (kp_same e010) h1, Tp.mono (kp_same e10) hr9, tm.hz.sh.small (p600 (by decide)) (p600 (by decide)), (ahead_bd tm.hz md mdd (ee_pos i) av).sz3 (p600 (by decide)) (p600 (by decide)) (ee_lt (by omega)) (gg_lt (by omega)), fun r11 H11 e11 hr11 => ?_⟩
          walk_at "g"
          refine ⟨_, _, _, _, rfl, Tp.mono (kp_same e11) hr10, hr11, (dot_bd tm.wz (tm.hz.g ds md d mdd) tm.w4).small (p600 (by decide)) (Nat.pow_le_pow_right (by decide) (by decide)), ?_, fun r12 H12 e12 hr12 => ?_⟩
          · have := tm.hz.sh.mul (ahead_bd tm.hz md mdd (ee_pos i) av)
            rw [← Nat.mul_assoc, ← Nat.mul_assoc] at this
            exact this.sz3 (p600 (by decide)) (p600 (by decide)) (ee_lt (by omega)) (gg_lt (by omega))
          · have e612 := e69.trans (e10.trans (e11.trans e12))
            have hf12 := e612 _ _ hf
            walk_at "g"
            refine ⟨fa, fus, r12, rfl, rfl, hf12, ?_, ?_⟩
            · rw [List.length_take, List.length_map] at fl
              omega
            · have k13 : Kp H12 (upd H12 fa (.lst (fus ++ [r12]))) := kp_upd hf12 id
              refine ⟨_, _, _, fus ++ [r12], rfl, Same.mut (e6.trans e612) hfa, upd_same, ?_⟩
              have gw : (ds.map (worth h ws (wor h ws i)))[m]? = some (worth h ws (wor h ws i) d) := by rw [List.getElem?_map, gq]; rfl
              rw [List.take_add_one, gw]
              exact isl_app (TpAll.mono ((kp_same e612).trans k13) lf) (isl_one (Tp.mono k13 hr12))
      · rintro σ' H6 ⟨y9, y10, y11, fus, rfl, e6, hf, lf⟩
        rw [e2, List.take_of_length_le (by rw [List.length_map]; exact Nat.le_refl _)] at lf
        have hr6 := e6 _ _ hr
        have gw : (wor h ws (i + 1))[j]? = some (lmax (ds.map (worth h ws (wor h ws i)))) := by
          show (h.st.map fun ds => lmax (ds.map (worth h ws (wor h ws i))))[j]? = _
          rw [List.getElem?_map, gd]
          rfl
        walk_at "g"
        refine ⟨.inl ⟨rfl, _, SqL.of hr6⟩, ?_⟩
        walk_at "g"
        refine ⟨fa, fus, _, rfl, hf, lf, by simpa using tm.ne ds md, fun q hq => ?_, fun r7 H7 e7 hr7 => ?_⟩
        · obtain ⟨d, hd, rfl⟩ := List.mem_map.mp hq
          exact (worth_bd tm.hz tm.wz tm.w4 md hd (tm.all i)).sz (lt3000 (ee_lt (by omega))) (lt3000 (gg_lt (by omega)))
        · have hr7' := e7 _ _ hr6
          walk_at "g"
          refine ⟨ra, rus, r7, rfl, rfl, hr7', ?_, ?_⟩
          · rw [List.length_take, wor_len] at rl
            omega
          · have k8 : Kp H7 (upd H7 ra (.lst (rus ++ [r7]))) := kp_upd hr7' id
            refine ⟨_, _, _, _, _, rus ++ [r7], rfl, Same.mut (e4.trans (e6.trans e7)) hra, upd_same, ?_⟩
            rw [List.take_add_one, gw]
            exact isl_app (TpAll.mono ((kp_same (e6.trans e7)).trans k8) lr) (isl_one (Tp.mono k8 hr7))
    · rintro σ' H4 ⟨y7, y8, y9, y10, y11, rus, rfl, e4, hr, lr⟩
      rw [e1, List.take_of_length_le (by rw [wor_len]; exact Nat.le_refl _)] at lr
      have hw4 := e4 _ _ hw
      walk_at "g"
      refine ⟨.inl ⟨rfl, _, SqL.of hw4⟩, ?_⟩
      walk_at "g"
      refine ⟨ra, rus, rfl, .inl ⟨SqL.of hr, fun t o nt oc od => ?_⟩⟩
      have s5 := same_new (o := .frz o (.tup rus)) nt
      walk_at "g"
      refine ⟨wa, us ++ [.ref lu], .ref t, rfl, rfl, s5 _ _ hw4, ?_, ?_⟩
      · rw [List.length_append, usl]
        show i + 1 < _
        omega
      · have e45 := e4.trans s5
        have k6 : Kp (upd H4 t (.frz o (.tup rus))) (upd (upd H4 t (.frz o (.tup rus))) wa (.lst (us ++ [.ref lu] ++ [.ref t]))) := kp_upd (s5 _ _ hw4) id
        have k36 := (kp_same e45).trans k6
        refine ⟨_, _, _, _, _, _, _, _, us ++ [.ref lu], .ref t, rfl, Same.mut (e.trans e45) na, upd_same, ?_, ?_⟩
        · rw [List.range_succ, List.map_append]
          exact isl_app (TpAll.mono k36 lus) (isl_one (Tp.mono k36 hu))
        · exact is_list_mk (TupA.mono k6 (TupA.frz (K := K) (o := o) upd_same)) (TpAll.mono ((kp_same s5).trans k6) lr)
  · rintro σ' H2 ⟨y4, y5, y6, y7, y8, y9, y10, y11, us, u, rfl, e, hw, lus, hu⟩
    rw [Int.toNat_natCast] at lus hu
    walk_at "g"
    refine ⟨wa, us ++ [u], rfl, .inl ⟨SqL.of hw, fun t o nt oc od => ?_⟩⟩
    have s3 := same_new (o := .frz o (.tup (us ++ [u]))) nt
    walk_at "g"
    refine k _ _ (e.trans s3) (is_list_mk (TupA.frz (K := K) (o := o) upd_same) ?_)
    rw [List.range_succ, List.map_append]
    exact isl_app (TpAll.mono (kp_same s3) lus) (isl_one (Tp.mono (kp_same s3) hu))
end
end K66

/-! MathE: the plain law (own work) -/
namespace K66
open PySem
theorem rsum_range (f : Nat → Rat) : ∀ n, rsum ((List.range n).map f) = sm n f
  | 0 => rfl
  | n + 1 => by
    rw [List.range_succ, List.map_append, List.map_cons, List.map_nil, rsum_snoc, rsum_range f n]
    rfl
theorem lmax_mx (f : Nat → Rat) (k : Nat) : lmax ((List.range (k + 1)).map f) = mx k f := by
  symm
  refine mx_is (fun i hi => lmax_ge (List.mem_map.mpr ⟨i, List.mem_range.mpr (by omega), rfl⟩)) ?_
  have ne : (List.range (k + 1)).map f ≠ [] := fun z => by
    have := congrArg List.length z
    rw [List.length_map, List.length_range] at this
    simp at this
  obtain ⟨i, hi, e⟩ := List.mem_map.mp (lmax_mem ne)
  exact ⟨i, by have := List.mem_range.mp hi; omega, e⟩
theorem list_range {α : Type} [Inhabited α] (l : List α) (d : α) : l = (List.range l.length).map fun i => l.getD i d := by
  refine List.ext_getElem? fun i => ?_
  by_cases h : i < l.length
  · rw [List.getElem?_map, List.getElem?_range h]
    show l[i]? = some (l.getD i d)
    rw [List.getD_eq_getElem?_getD, List.getElem?_eq_getElem h]
    rfl
  · rw [List.getElem?_eq_none (by omega), List.getElem?_eq_none (by rw [List.length_map, List.length_range]; omega)]
theorem zip_range (f : Rat → Rat → Rat) (a b : List Rat) (h : a.length = b.length) : List.zipWith f a b = (List.range a.length).map fun i => f (a.getD i 0) (b.getD i 0) := by
  refine List.ext_getElem? fun i => ?_
  by_cases q : i < a.length
  · rw [List.getElem?_zipWith, List.getElem?_map, List.getElem?_range q, getD_at q, getD_at (l := b) (by omega)]
    rfl
  · rw [List.getElem?_eq_none (by rw [List.length_zipWith]; omega), List.getElem?_eq_none (by rw [List.length_map, List.length_range]; omega)]
theorem dot_sm (a b : List Rat) (h : a.length = b.length) : dotR a b = sm a.length fun i => a.getD i 0 * b.getD i 0 := by
  unfold dotR
  rw [zip_range _ a b h, rsum_range]
/-- the chance of a goal -/
def chp (ch : Ch) (t : Nat) : Rat := rsum (ch.map fun c => if c.1 = t then c.2 else 0)
theorem chp_cons (c : Nat × Rat) (ch : Ch) (t : Nat) : chp (c :: ch) t = (if c.1 = t then c.2 else 0) + chp ch t := by
  unfold chp
  rw [List.map_cons, rsum_cons]
theorem chp_nil (t : Nat) : chp [] t = 0 := rfl
theorem chp_nn {ch : Ch} (h : ∀ c ∈ ch, 0 ≤ c.2) (t : Nat) : 0 ≤ chp ch t := by
  induction ch with
  | nil => exact Rat.le_refl
  | cons c r ih =>
    rw [chp_cons]
    have h1 := ih fun c hc => h c (by simp [hc])
    have h2 := h c (by simp)
    split
    · grind
    · grind
theorem chp_dot {N : Nat} (v : Nat → Rat) : ∀ ch : Ch, (∀ c ∈ ch, c.1 < N) → rsum (ch.map fun c => c.2 * v c.1) = sm N fun t => chp ch t * v t
  | [], _ => by
    rw [sm_congr (g := fun _ => 0) fun t _ => by rw [chp_nil]; grind, sm_zero]
    rfl
  | c :: ch, h => by
    have ih := chp_dot (N := N) v ch fun c hc => h c (by simp [hc])
    rw [List.map_cons, rsum_cons, ih]
    have e : ∀ t, chp (c :: ch) t * v t = (if c.1 = t then c.2 * v c.1 else 0) + chp ch t * v t := fun t => by
      rw [chp_cons]
      by_cases q : c.1 = t
      · rw [if_pos q, if_pos q, q]; grind
      · rw [if_neg q, if_neg q]; grind
    rw [sm_congr fun t _ => e t, sm_add, sm_one _ (h c (by simp))]
theorem getD_set (f : List Rat) (i t : Nat) (y : Rat) (h : i < f.length) : (f.set i y).getD t 0 = if i = t then y else f.getD t 0 := by
  rw [List.getD_eq_getElem?_getD, List.getD_eq_getElem?_getD]
  by_cases q : i = t
  · subst q
    rw [if_pos rfl, List.getElem?_set_self h]
    rfl
  · rw [if_neg q, List.getElem?_set_ne q]
theorem behind1_at (a : Rat) : ∀ (ch : Ch) (f : List Rat), (∀ c ∈ ch, c.1 < f.length) → ∀ t, (behind1 a ch f).getD t 0 = f.getD t 0 + a * chp ch t
  | [], f, _, t => by
    show f.getD t 0 = _
    rw [chp_nil]; grind
  | c :: ch, f, h, t => by
    have ih := behind1_at a ch (f.set c.1 (f.getD c.1 0 + a * c.2)) (fun c hc => by rw [List.length_set]; exact h c (by simp [hc])) t
    show (behind1 a ch (f.set c.1 (f.getD c.1 0 + a * c.2))).getD t 0 = _
    rw [ih, getD_set _ _ _ _ (h c (by simp)), chp_cons]
    by_cases q : c.1 = t
    · rw [if_pos q, if_pos q, ← q]; grind
    · rw [if_neg q, if_neg q]; grind
theorem stands_sum (marks : List Nat) (m : Nat) (q : Nat → Rat) : rsum ((standsOf marks m).map q) = sm marks.length fun s => if marks.getD s 0 = m then q s else 0 := by
  have gen : ∀ k, k ≤ marks.length → rsum (((List.range k).filterMap fun s => if marks[s]? = some m then some s else none).map q) = sm k fun s => if marks.getD s 0 = m then q s else 0 := by
    intro k
    induction k with
    | zero => intro _; rfl
    | succ k ih =>
      intro hk
      have g : marks[k]? = some marks[k] := List.getElem?_eq_getElem (by omega)
      have gd : marks.getD k 0 = marks[k] := by rw [List.getD_eq_getElem?_getD, g]; rfl
      rw [List.range_succ, List.filterMap_append, List.map_append]
      show _ = sm k _ + (if marks.getD k 0 = m then q k else 0)
      rw [← ih (by omega), gd]
      by_cases c : marks[k] = m
      · rw [if_pos c]
        have : List.filterMap (fun s => if marks[s]? = some m then some s else none) [k] = [k] := by simp [g, c]
        rw [this]
        exact rsum_snoc _ _
      · rw [if_neg c]
        have : List.filterMap (fun s => if marks[s]? = some m then some s else none) [k] = [] := by simp [g, c]
        rw [this, List.map_nil, List.append_nil]
        grind
  exact gen marks.length (Nat.le_refl _)
/-! ### the model of a dim -/
def mdl (ws : List Rat) (h : House) (N : Nat) : Mdl := ⟨N, h.sh, fun s d => dotR ws (deedAt h.st s d).2, fun s d t => chp (deedAt h.st s d).1 t⟩
def sig (marks : List Nat) (s : Nat) : Nat := marks.getD s 0
theorem deed_in {h : House} (ho : HouseOk h) (s d : Nat) : deedAt h.st s d = ([], []) ∨ ∃ x ∈ h.st, deedAt h.st s d ∈ x ∧ ChOk h.st.length (deedAt h.st s d).1 := by
  by_cases q : d < (h.st.getD s []).length
  · obtain ⟨m1, m2⟩ := deedAt_mem q
    exact .inr ⟨_, m1, m2, ((ho.st _ m1).d _ m2).c⟩
  · left
    unfold deedAt
    rw [List.getD_eq_getElem?_getD, List.getElem?_eq_none (by omega)]
    rfl
theorem deed_lt {h : House} (ho : HouseOk h) (s d : Nat) : ∀ c ∈ (deedAt h.st s d).1, c.1 < h.st.length := fun c hc => by
  rcases deed_in ho s d with e | ⟨x, _, _, e⟩
  · rw [e] at hc; cases hc
  · exact e.lt c hc
theorem mdl_nn {h : House} (ho : HouseOk h) (ws : List Rat) (N s d t : Nat) : 0 ≤ (mdl ws h N).p s d t := by
  refine chp_nn (fun c hc => ?_) t
  rcases deed_in ho s d with e | ⟨x, _, _, e⟩
  · rw [e] at hc; cases hc
  · exact Rat.le_of_lt (e.pos c hc)
theorem bst_sig {A : Mdl} {σ τ : Nat → Nat} {M : Nat} {D : Nat → Nat} (h : ∀ s, s < A.N → σ s = τ s) : ∀ (n m : Nat) (x : Nat → Rat), bst A σ M D n m x = bst A τ M D n m x
  | 0, _, _ => rfl
  | n + 1, m, x => by
    rw [bst_succ, bst_succ]
    have e1 : ∀ d, gn A σ m x d = gn A τ m x d := fun d => sm_congr fun s hs => by rw [h s hs]
    have e2 : ∀ d, bh A σ m x d = bh A τ m x d := fun d => funext fun t => sm_congr fun s hs => by rw [h s hs]
    refine mx_congr fun d _ => ?_
    unfold vl tot
    rw [e1, e2]
    congr 2
    exact sm_congr fun j _ => bst_sig h n j _
theorem behind_sm {dim : Dim} (dk : DimOk dim) (ws : List Rat) (m d : Nat) (x : List Rat) (t : Nat) (ht : t < dim.2.length) : (behindL dim m x d).getD t 0 = bh (mdl ws dim.1 dim.2.length) (sig dim.2) m (fun s => x.getD s 0) d t := by
  have gen : ∀ (ss : List Nat) (f : List Rat), f.length = dim.2.length → (ss.foldl (fun f s => behind1 (x.getD s 0) (deedAt dim.1.st s d).1 f) f).getD t 0 = f.getD t 0 + rsum (ss.map fun s => x.getD s 0 * chp (deedAt dim.1.st s d).1 t) := by
    intro ss
    induction ss with
    | nil => intro f _; rw [List.map_nil, rsum_nil]; show f.getD t 0 = _; grind
    | cons s ss ih =>
      intro f hf
      rw [List.foldl_cons, ih _ (by rw [behind1_len]; exact hf), behind1_at _ _ _ (fun c hc => by rw [hf, dk.ln]; exact deed_lt dk.ho s d c hc), List.map_cons, rsum_cons]
      grind
  unfold behindL
  rw [gen _ _ (by rw [List.length_replicate]), stands_sum]
  have e : (List.replicate dim.2.length (0 : Rat)).getD t 0 = 0 := by
    rw [List.getD_eq_getElem?_getD, List.getElem?_replicate]
    split <;> rfl
  rw [e]
  unfold bh
  show 0 + sm dim.2.length _ = sm dim.2.length _
  rw [Rat.zero_add]
  exact sm_congr fun s _ => rfl
theorem hold_sm {marks : List Nat} {j s : Nat} {f : List Rat} (hs : s < marks.length) (hf : f.length = marks.length) (h : sig marks s = j) : (holdAt marks j f).getD s 0 = f.getD s 0 := by
  unfold sig at h
  unfold holdAt
  rw [List.getD_eq_getElem?_getD, List.getElem?_zipWith, List.getElem?_eq_getElem hs, getD_at (l := f) (by omega)]
  rw [List.getD_eq_getElem?_getD, List.getElem?_eq_getElem hs] at h
  have h : marks[s] = j := h
  show (if marks[s] = j then f.getD s 0 else 0) = _
  rw [if_pos h]
theorem link {dim : Dim} (dk : DimOk dim) (ws : List Rat) (D : Nat → Nat) (hD : ∀ m, m < mmany dim.2 → deedsN dim m = D m + 1) :
    ∀ (n m : Nat) (x : List Rat), x.length = dim.2.length → m < mmany dim.2 → bestR ws dim n m x = bst (mdl ws dim.1 dim.2.length) (sig dim.2) (mmany dim.2) D n m (fun s => x.getD s 0)
  | 0, _, _, _, _ => rfl
  | n + 1, m, x, hx, hm => by
    rw [bestR_succ]
    split
    · rename_i h
      have z : ∀ s, x.getD s 0 = 0 := fun s => by
        rw [List.getD_eq_getElem?_getD]
        cases q : x[s]? with
        | none => rfl
        | some y => exact of_decide_eq_true (List.all_eq_true.mp h y (List.mem_of_getElem? q))
      have e : (fun s => x.getD s 0) = fun _ => (0 : Rat) := funext z
      rw [e, bst_nil]
    · rw [hD m hm, lmax_mx, bst_succ]
      refine mx_congr fun d _ => ?_
      have g : gainsL ws dim m x d = gn (mdl ws dim.1 dim.2.length) (sig dim.2) m (fun s => x.getD s 0) d := by
        unfold gainsL
        rw [stands_sum]
        rfl
      unfold valueR vl
      rw [g]
      have a : rsum (aheadL ws dim n (behindL dim m x d)) = tot (mdl ws dim.1 dim.2.length) (sig dim.2) (mmany dim.2) D n (bh (mdl ws dim.1 dim.2.length) (sig dim.2) m (fun s => x.getD s 0) d) := by
        unfold aheadL tot
        rw [rsum_range]
        refine sm_congr fun j hj => ?_
        rw [link dk ws D hD n j _ (hold_len (behindL_len ..)) hj]
        refine bst_congr n fun s hs e => ?_
        show (holdAt dim.2 j _).getD s 0 = _
        rw [hold_sm hs (behindL_len ..) e]
        exact behind_sm dk ws m d x s hs
      rw [a]
      rfl
theorem look_tot {dim : Dim} (dk : DimOk dim) (ws : List Rat) (D : Nat → Nat) (hD : ∀ m, m < mmany dim.2 → deedsN dim m = D m + 1) (n : Nat) (x : List Rat) (hx : x.length = dim.2.length) :
    lookR ws dim n x = tot (mdl ws dim.1 dim.2.length) (sig dim.2) (mmany dim.2) D n (fun s => x.getD s 0) := by
  unfold lookR aheadL tot
  rw [rsum_range]
  refine sm_congr fun j hj => ?_
  rw [link dk ws D hD n j _ (hold_len hx) hj]
  refine bst_congr n fun s hs e => ?_
  exact hold_sm hs hx e
/-! ### the worths -/
theorem wor_wr {h : House} (ho : HouseOk h) (ws : List Rat) : ∀ (n s : Nat), s < h.st.length → (wor h ws n).getD s 0 = wr (mdl ws h h.st.length) (fun s => (h.st.getD s []).length - 1) n s
  | 0, s, hs => by
    show (List.replicate h.st.length (0 : Rat)).getD s 0 = 0
    rw [List.getD_eq_getElem?_getD, List.getElem?_replicate]
    split <;> rfl
  | n + 1, s, hs => by
    have g : h.st[s]? = some h.st[s] := List.getElem?_eq_getElem hs
    have gd : h.st.getD s [] = h.st[s] := by rw [List.getD_eq_getElem?_getD, g]; rfl
    have lo := (ho.st _ (List.getElem_mem hs)).lo
    have e0 : (wor h ws (n + 1)).getD s 0 = lmax (h.st[s].map (worth h ws (wor h ws n))) := by
      show (h.st.map fun ds => lmax (ds.map (worth h ws (wor h ws n)))).getD s 0 = _
      rw [List.getD_eq_getElem?_getD, List.getElem?_map, g]
      rfl
    rw [e0]
    have e1 : h.st[s].map (worth h ws (wor h ws n)) = (List.range (h.st[s].length - 1 + 1)).map fun d => worth h ws (wor h ws n) (deedAt h.st s d) := by
      rw [show h.st[s].length - 1 + 1 = h.st[s].length by omega]
      have := list_range h.st[s] (([], []) : Deed)
      have e2 : ∀ d, deedAt h.st s d = h.st[s].getD d ([], []) := fun d => by unfold deedAt; rw [gd]
      calc h.st[s].map (worth h ws (wor h ws n)) = ((List.range h.st[s].length).map fun i => h.st[s].getD i ([], [])).map (worth h ws (wor h ws n)) := congrArg _ this
        _ = _ := by
          rw [List.map_map]
          refine List.map_congr_left fun d _ => ?_
          show worth h ws _ (h.st[s].getD d ([], [])) = _
          rw [e2]
    rw [e1, lmax_mx]
    show _ = mx ((h.st.getD s []).length - 1) _
    rw [gd]
    refine mx_congr fun d _ => ?_
    show dotR ws (deedAt h.st s d).2 + h.sh * rsum ((deedAt h.st s d).1.map fun c => c.2 * (wor h ws n).getD c.1 0) = _
    rw [chp_dot (N := h.st.length) (fun t => (wor h ws n).getD t 0) _ (deed_lt ho s d)]
    show _ = dotR ws (deedAt h.st s d).2 + h.sh * sm h.st.length _
    rw [sm_congr fun t ht => by rw [wor_wr ho ws n t ht]]
    rfl
theorem dot_wr {h : House} (ho : HouseOk h) (ws : List Rat) (n : Nat) (x : List Rat) (hx : x.length = h.st.length) :
    dotR x (wor h ws n) = sm h.st.length fun s => x.getD s 0 * wr (mdl ws h h.st.length) (fun s => (h.st.getD s []).length - 1) n s := by
  rw [dot_sm _ _ (by rw [hx, wor_len]), hx]
  refine sm_congr fun s hs => ?_
  rw [wor_wr ho ws n s hs]
theorem nn_at {x : List Rat} (h : ∀ q ∈ x, 0 ≤ q) (s : Nat) : 0 ≤ x.getD s 0 := by
  rw [List.getD_eq_getElem?_getD]
  cases q : x[s]? with
  | none => exact Rat.le_refl
  | some y => exact h y (List.mem_of_getElem? q)
theorem sig_lt {dim : Dim} (dk : DimOk dim) {s : Nat} (hs : s < dim.2.length) : dim.2[s]? = some (sig dim.2 s) ∧ sig dim.2 s < mmany dim.2 := by
  have g : dim.2[s]? = some dim.2[s] := List.getElem?_eq_getElem hs
  have e : sig dim.2 s = dim.2[s] := by unfold sig; rw [List.getD_eq_getElem?_getD, g]; rfl
  rw [e]
  exact ⟨g, dk.lt (List.getElem_mem hs)⟩
theorem dpos {dim : Dim} (dk : DimOk dim) : ∀ m, m < mmany dim.2 → deedsN dim m = (deedsN dim m - 1) + 1 := fun m hm => by
  have := (dk.pos (dk.all m hm)).1
  omega
/-- the whole sight brings no more than all stands' worths -/
theorem look_le {dim : Dim} (dk : DimOk dim) (ws : List Rat) (n : Nat) (x : List Rat) (hx : x.length = dim.2.length) (nn : ∀ q ∈ x, 0 ≤ q) : lookR ws dim n x ≤ dotR x (wor dim.1 ws n) := by
  rw [look_tot dk ws (fun m => deedsN dim m - 1) (dpos dk) n x hx, dot_wr dk.ho ws n x (by rw [hx, dk.ln]), dk.ln]
  refine tot_le dk.ho.s0 (fun s d t _ => mdl_nn dk.ho ws _ s d t) (fun s hs => (sig_lt dk (by rw [dk.ln]; exact hs)).2) (fun s hs => ?_) n _ fun s _ => nn_at nn s
  have := dk.ev s _ (sig_lt dk (s := s) (by rw [dk.ln]; exact hs)).1
  show deedsN dim (sig dim.2 s) - 1 = (dim.1.st.getD s []).length - 1
  rw [this]
/-- each stand its own mark -/
theorem look_own {dim : Dim} (dk : DimOk dim) (ws : List Rat) (n : Nat) (x : List Rat) (hx : x.length = dim.2.length) (nn : ∀ q ∈ x, 0 ≤ q) (nd : dim.2.Nodup) : lookR ws dim n x = dotR x (wor dim.1 ws n) := by
  rw [look_tot dk ws (fun m => deedsN dim m - 1) (dpos dk) n x hx, dot_wr dk.ho ws n x (by rw [hx, dk.ln]), dk.ln]
  refine tot_own dk.ho.s0 (fun s d t _ => mdl_nn dk.ho ws _ s d t) (fun s hs => (sig_lt dk (by rw [dk.ln]; exact hs)).2) (fun s hs => ?_) (fun s t hs ht e => ?_) n _ fun s _ => nn_at nn s
  · have := dk.ev s _ (sig_lt dk (s := s) (by rw [dk.ln]; exact hs)).1
    show deedsN dim (sig dim.2 s) - 1 = (dim.1.st.getD s []).length - 1
    rw [this]
  · have hs : s < dim.2.length := by rw [dk.ln]; exact hs
    have ht : t < dim.2.length := by rw [dk.ln]; exact ht
    have g1 := (sig_lt dk hs).1
    have g2 := (sig_lt dk ht).1
    rw [List.getElem?_eq_getElem hs] at g1
    rw [List.getElem?_eq_getElem ht, ← e] at g2
    have : dim.2[s] = dim.2[t] := (Option.some.inj g1).trans (Option.some.inj g2).symm
    exact (List.getElem_inj nd).mp this
/-- a coarser sight of the same house -/
theorem look_coarse {h : House} {marks ms2 : List Nat} {f : Nat → Nat} {k : Nat} (d1 : DimOk (h, marks)) (d2 : DimOk (h, ms2)) (hk : ∀ s ∈ h.st, s.length = k + 1) (hf : ∀ s, s < marks.length → sig ms2 s = f (sig marks s)) (hm : ∀ m, m < mmany marks → f m < mmany ms2)
    (ws : List Rat) (n : Nat) (x : List Rat) (hx : x.length = marks.length) : lookR ws (h, ms2) n x ≤ lookR ws (h, marks) n x := by
  have kk : ∀ (ms : List Nat), DimOk (h, ms) → ∀ m, m < mmany ms → deedsN (h, ms) m = k + 1 := fun ms dk m hm => by
    obtain ⟨s, g1, g2, g3⟩ := dk.at (dk.all m hm)
    rw [g3]
    exact hk s g2
  have l1 := d1.ln
  have l2 := d2.ln
  have l12 : ms2.length = marks.length := l2.trans l1.symm
  rw [look_tot d1 ws (fun _ => k) (kk marks d1) n x hx, look_tot d2 ws (fun _ => k) (kk ms2 d2) n x (by rw [hx]; exact l12.symm)]
  show tot (mdl ws h ms2.length) (sig ms2) (mmany ms2) (fun _ => k) n _ ≤ tot (mdl ws h marks.length) (sig marks) (mmany marks) (fun _ => k) n _
  rw [l12]
  have e : tot (mdl ws h marks.length) (sig ms2) (mmany ms2) (fun _ => k) n (fun s => x.getD s 0) = tot (mdl ws h marks.length) (fun s => f (sig marks s)) (mmany ms2) (fun _ => k) n (fun s => x.getD s 0) := by
    unfold tot
    exact sm_congr fun j _ => bst_sig hf n j _
  rw [e]
  exact tot_fine d1.ho.s0 (fun s hs => (sig_lt d1 hs).2) hm n _
end K66

/-! L4a: defs that ask for no guards (own work) -/
namespace K66
open PySem PySem.Spec PyProof.Rows L2
/-- what a def promises where no guard stands -/
structure FnG (P : Program) (w : World) (K : PySem.W.Frag) (mg : Str → Option Value) (base : Heap) (k : Nat) (f : Addr) (fd : FuncData) (ps : List Str) (sp : Sp) : Prop where
  len : ∀ vs H Q E, sp vs H Q E → vs.length = ps.length
  go : ∀ (A : Around) (stk : List Env) (s : Shared) (H : Hp) (args : Args) (us : List Value) (vs : List V) (Q : VK) (E : XK), A.guards = some [] → Room k A → Env0 P w K mg base A stk s H → BindsTo s fd args (ps.zip us) → Vals vs us → sp vs H Q E →
    codeAny (model P w) A (.call (.ref f) args) (CR CX0 stk P w H s Q E) s
section
variable {P : Program} {w : World} {K : PySem.W.Frag} {mg : Str → Option Value} {base : Heap}
theorem fng_of {x qual : Str} {params : Arguments} {body : List Stmt} {scope : Scope} {f : Addr} {fd : FuncData} {N ps : List Str} {k : Nat} {sp : Sp} (F : FunD K x qual params body scope [] [] f fd) (S : FnScope N ps scope) (len : ∀ vs H Q E, sp vs H Q E → vs.length = ps.length)
    (hbody : ∀ (cdv : Value) (A : Around) (stk : List Env) (s : Shared) (H : Hp) (vs : List V) (Q : VK) (E : XK), (A.deeper (envOfC qual scope s.heap.objs.size f cdv)).guards = some [] → Room k (A.deeper (envOfC qual scope s.heap.objs.size f cdv)) → sp vs H Q E →
      ∃ t, PSs (cxOf CX0 P w K mg base N qual scope f cdv A stk s H E) body t ∧ t { nx := fun _ H' => Q .non H', rt := Q } (L2.start N vs) H) : FnG P w K mg base (k + 1) f fd ps sp := by
  obtain ⟨_, _, _, _, _, _, _, cdv, _, _, rfl, lk, hcd, _⟩ := F.ex
  refine ⟨len, fun A stk s H args us vs Q E hg hr e0 hb r hs => ?_⟩
  have lz := len vs H Q E hs
  have kin : K.In s.heap := e0.mod.kin.keeps fun a u q => (e0.bs a u q).1
  have nol : s.heap.NoLimit := e0.mod.nolimit.keeps fun a u q => (e0.bs a u q).1
  have kinds : ∀ y ∈ ps.zip us, scope.names.lookup y.1 = some .local ∨ (scope.names.lookup y.1 = some .cell ∧ ((cellsFrom (s.heap.objs.size + 1) scope.names []).lookup y.1).isSome = true) := fun ⟨n, v⟩ hy => by
    rcases S.par n (List.of_mem_zip hy).1 with z | z
    · exact .inl z
    · exact .inr ⟨z, PySem.W.cellsFrom_some _ _ _ (.inl z)⟩
  refine codeAny_call_function hr.depth (kin _ _ lk) rfl S.co S.gen rfl (PySem.W.codeRec_of kin hcd) (hb _ _ _ _ (wpAny_newFunctionEnv_cells S.kind kinds fun env he s2 y => ?_))
  subst he
  refine ⟨nol.keeps y.toInCall.keep, codeAny_func ?_⟩
  obtain ⟨t, ht, hq⟩ := hbody cdv A stk s H vs Q E hg (hr.deeper _) hs
  have J : Inv (cxOf CX0 P w K mg base N qual scope f cdv A stk s H E) [] (L2.start N vs) H s2 := inv_start S hr.hd e0 lz r y
  refine wpAny_mono (ht.run [] s2 (L2.start N vs) H _ J hq) (fun fl s3 hz => ?_) fun e s3 hz => hz
  cases fl with
  | ret u =>
    obtain ⟨v, σ2, H2, J2, rv, q⟩ := hz
    exact ⟨v, H2, J2.os, J2.bare, J2.base, J2.hok, rv, q⟩
  | next =>
    obtain ⟨σ2, H2, J2, q⟩ := hz
    exact ⟨V.non, H2, J2.os, J2.bare, J2.base, J2.hok, rfl, q⟩
  | brk => exact hz.elim fun _ z => z.elim fun _ z => z.2.elim
  | cont => exact hz.elim fun _ z => z.elim fun _ z => z.2.elim
theorem pe_callG {X : Cx} {k : Nat} {f : Addr} {fd : FuncData} {ps : List Str} {sp : Sp} {x : Str} {p pos : Pos} {e : Expr} {es : List Expr} {t : TA} (F : FnG X.prog X.w X.K X.mg X.base k f fd ps sp) (hgd : X.A.guards = some []) (hr : Room k X.A) (hg : Gl X x) (hm : X.mg x = some (.ref f))
    (hk : PySem.W.keepIn X.K (.ref f) = true) (hb : Binds X.K fd ps []) (hx : Passes CX0 X E0) (ha : PA X (e :: es) t) (hdb : (x == ("__debug__" : Str)) = false := by decide)
    (he : starEach (e :: es) X.env = (false, eval e X.env) :: starEach es X.env := by rfl) (hpl : (backTo pos (starEach es X.env)).any (·.1) = false := by rfl) : PE X (.Call (.Name x p) (e :: es) [] pos) (tCall sp [] E0 t) := by
  refine ⟨fun pins s σ H Q I h => ?_⟩
  refine wpAny_Call_Name_kw (ld_glob I hg hm (PySem.W.callWith_K (h₀ := X.base) I.ok.mod.kin hk (thn (ha.run pos pins s σ H _ I h) fun us s2 ⟨vs, H2, J, r, q⟩ => ⟨J.kIn, ?_⟩) he hpl) hdb)
  have r2 : Vals (vs ++ []) (us ++ []) := r.append .nil
  have lz : (us ++ []).length = ps.length := by rw [← r2.length]; exact F.len _ _ _ _ q
  refine wpAny_call (codeAny_mono (F.go X.A X.stack s2 H2 ⟨us, []⟩ (us ++ []) (vs ++ []) Q E0 hgd hr J.env0 (hb s2 us J.kIn lz) r2 q) fun res s3 hz => ?_)
  cases res with
  | error e => exact hx pins σ H2 s2 e s3 J hz
  | ok fl =>
    cases fl with
    | ret u => exact J.after hz
    | next | brk | cont => exact hz.elim
/-- the law's call, behind the top -/
theorem lawG {mb : Str → Option Value} {k n : Nat} {fa a : Addr} {fd : FuncData} {x : Str} {sp : Sp} {s1 : Shared} {us : List Value} {ns : List Int} (KX : K.In s1.heap) (hns : s1.heap.Ns mainGlobals mg) (hb : s1.heap.Ns builtinsNs mb)
    (hbb : ∀ x : Str, x ≠ "__name__" → mb x = bootBuiltins x) (hlim : s1.heap.NoLimit) (hg : s1.gens = #[]) (ha : s1.heap.get? a = some { cls := .type "list", data := .seq us.toArray }) (hi : IntsAre us ns) (hl : ns.length ≤ sizeLine) (hr : Room k callerA)
    (F : ∀ base : Heap, K.In base → base.Ns mainGlobals mg → FnG P w K mg base k fa fd [x] sp) (hbind : ∀ (s : Shared) (u : Value), BindsTo s fd ⟨[u], []⟩ [(x, u)])
    (hsp : ∀ H : Hp, Only H → SqL K H a (ns.map V.int) → sp [.ref a] H (fun v _ => v = .bl true) fun _ _ _ => False) :
    codeAny (model P w) callerA (.call (.ref fa) ⟨[.ref a], []⟩) (fun r s2 => r = .ok (.ret (.bool true)) ∧ OldK s1.heap s2.heap ∧ s2.os = s1.os ∧ AllBare s2.gens) s1 := by
  have core : ∀ H : Hp, Only H → SqL K H a (ns.map V.int) → HOk P w H s1.heap → (∀ b, H b ≠ none → b = a) → (H a ≠ none → K.lookup a = none) →
      codeAny (model P w) callerA (.call (.ref fa) ⟨[.ref a], []⟩) (fun r s2 => r = .ok (.ret (.bool true)) ∧ OldK s1.heap s2.heap ∧ s2.os = s1.os ∧ AllBare s2.gens) s1 := by
    intro H hO hS hok hA hK
    have clear : ∀ {b : Addr} {o : Obj} {es : Array DictEntry} {ep : Nat}, s1.heap.get? b = some o → o.data = .dict es ep → H b = none := fun {b o es ep} e d => by
      by_cases q : H b = none
      · exact q
      · have z := hA b q
        subst z
        rw [ha] at e
        cases e
        cases (show Data.seq us.toArray _ = Data.dict es ep from d)
    have nsK : ∀ {b : Addr} {m : Str → Option Value}, s1.heap.Ns b m → (hidT s1.heap H).Ns b m := fun {b m} ⟨o, es, ep, e, d, r⟩ => ⟨o, es, ep, hidT_get e (clear e d), d, r⟩
    have kb : K.In (hidT s1.heap H) := fun b o e => hidT_get (KX b o e) (by
      by_cases q : H b = none
      · exact q
      · have z := hA b q
        subst z
        rw [hK q] at e
        cases e)
    have md : Mod K mg (hidT s1.heap H) := ⟨kb, nsK hns, ⟨mb, nsK hb, hbb⟩, let ⟨mc, h1, h2⟩ := hlim; ⟨mc, nsK h1, h2⟩⟩
    have e0 : Env0 P w K mg (hidT s1.heap H) callerA [] s1 H := ⟨rfl, md, fun b o e => of_hidT e, Nat.le_of_eq (hidT_size _ _), trivial, (fun b hb => by cases hb), hok, .of_eq hg⟩
    refine codeAny_mono ((F _ kb (nsK hns)).go callerA [] s1 H ⟨[.ref a], []⟩ [.ref a] [.ref a] _ _ rfl hr e0 (hbind s1 (.ref a)) (.cons rfl .nil) (hsp H hO hS)) fun r s2 h => ?_
    cases r with
    | error e => exact h.elim
    | ok fl =>
      cases fl with
      | next | brk | cont => exact h.elim
      | ret u =>
        obtain ⟨v, H2, os, bare, un, hok2, rv, q⟩ := h
        cases (show v = .bl true from q)
        cases (show u = Value.bool true from rv)
        refine ⟨rfl, OldK.of_keep fun b o e => ?_, os, bare⟩
        rcases hO b with z | ⟨ob, xs, z⟩
        · exact un.keep b o e z (fun q => by cases q) (fun q => by cases q)
        · obtain ⟨e1, _⟩ := hok b _ z
          obtain ⟨e2, _⟩ := hok2 b _ (un.frzs b ob _ z)
          rw [e] at e1
          cases e1
          exact e2
  have rv := vals_ints hi
  by_cases hk : K.lookup a = none
  · refine core (fun b => if b = a then some (.frz { cls := .type "list", data := .seq us.toArray } (.lst (ns.map V.int))) else none) (fun b => ?_) (.inl (.inr ⟨{ cls := .type "list", data := .seq us.toArray }, if_pos rfl⟩)) (fun b u z => ?_) (fun b z => ?_) fun _ => hk
    · by_cases q : b = a
      · exact .inr ⟨_, _, if_pos q⟩
      · exact .inl (if_neg q)
    · by_cases q : b = a
      · have z2 := (if_pos q).symm.trans z
        cases z2
        subst q
        exact ⟨ha, by rw [List.length_map]; exact hl, us, _, rv, ha⟩
      · cases (if_neg q).symm.trans z
    · by_cases q : b = a
      · exact q
      · exact absurd (if_neg q) z
  · obtain ⟨o, ho⟩ := Option.ne_none_iff_exists'.mp hk
    have e := KX a o ho
    rw [ha] at e
    cases e
    exact core (fun _ => none) (fun _ => .inl rfl) (.inr ⟨_, us.toArray, _, ho, rfl, rfl, rfl, by rw [List.size_toArray, hi.length]; exact hl, by simpa using rv⟩) (fun b u z => by cases z) (fun b z => absurd rfl z) fun z => absurd rfl z
end
/-! ### what is shown -/
def SmallR (q : Rat) : Prop := q.num.natAbs < 2 ^ 1900 ∧ q.den < 2 ^ 1900
theorem log_lt {n : Nat} (h : n < 2 ^ 1900) : n.log2 < 1920 := by
  by_cases z : n = 0
  · subst z; decide
  · exact Nat.lt_trans ((Nat.log2_lt z).mpr h) (by decide)
theorem int_show (i : Int) (h : i.natAbs < 2 ^ 1900) : (PyData.int i).showable = true ∧ (PyData.int i).leavesShort 1921 = true := by
  have hl := log_lt h
  refine ⟨by simp only [PyData.showable]; exact decide_eq_true hl, ?_⟩
  simp only [PyData.leavesShort]
  exact decide_eq_true (int_text_len_1921 hl)
structure Shown (ds : List PyData) (b : Nat) : Prop where
  s : PyData.showableAll ds = true
  l : PyData.leavesShortAll 1921 ds = true
  d : PyData.hasDictAll ds = false
  p : PyData.depthAll ds ≤ b
theorem rat_shown {q : Rat} (h : SmallR q) : (Enc.enc q : PyData).showable = true ∧ (Enc.enc q : PyData).leavesShort 1921 = true ∧ (Enc.enc q : PyData).hasDict = false ∧ (Enc.enc q : PyData).depth ≤ 5 ∧ (Enc.enc q : PyData).bulk = 2 := by
  obtain ⟨a1, a2⟩ := int_show q.num h.1
  obtain ⟨b1, b2⟩ := int_show (q.den : Int) (by rw [Int.natAbs_natCast]; exact h.2)
  refine ⟨?_, ?_, ?_, ?_, ?_⟩
  · show PyData.showable (.tuple [.int q.num, .int q.den]) = true
    simp only [PyData.showable, PyData.showableAll] at a1 b1 ⊢
    rw [a1, b1]; rfl
  · show PyData.leavesShort 1921 (.tuple [.int q.num, .int q.den]) = true
    simp only [PyData.leavesShort, PyData.leavesShortAll] at a2 b2 ⊢
    rw [a2, b2]; rfl
  · show PyData.hasDict (.tuple [.int q.num, .int q.den]) = false
    simp only [PyData.hasDict, PyData.hasDictAll]; rfl
  · show PyData.depth (.tuple [.int q.num, .int q.den]) ≤ 5
    simp only [PyData.depth, PyData.depthAll]; decide
  · show PyData.bulk (.tuple [.int q.num, .int q.den]) = 2
    simp only [PyData.bulk, PyData.bulkAll]
theorem row_shown : ∀ {l : List Rat}, (∀ q ∈ l, SmallR q) → Shown (l.map Enc.enc) 5 ∧ PyData.bulkAll (l.map Enc.enc) = 3 * l.length
  | [], _ => ⟨⟨by simp only [List.map_nil, PyData.showableAll], by simp only [List.map_nil, PyData.leavesShortAll], by simp only [List.map_nil, PyData.hasDictAll], by simp only [List.map_nil, PyData.depthAll]; decide⟩, by simp only [List.map_nil, PyData.bulkAll]; rfl⟩
  | q :: l, h => by
    obtain ⟨⟨i1, i2, i3, i4⟩, i5⟩ := row_shown (l := l) fun z hz => h z (by simp [hz])
    obtain ⟨a1, a2, a3, a4, a5⟩ := rat_shown (h q (by simp))
    rw [List.map_cons]
    refine ⟨⟨?_, ?_, ?_, ?_⟩, ?_⟩
    · simp only [PyData.showableAll]; rw [a1, i1]; rfl
    · simp only [PyData.leavesShortAll]; rw [a2, i2]; rfl
    · simp only [PyData.hasDictAll]; rw [a3, i3]; rfl
    · simp only [PyData.depthAll]; exact Nat.max_le.mpr ⟨a4, i4⟩
    · simp only [PyData.bulkAll]; rw [a5, i5, List.length_cons]; omega
theorem rows_shown : ∀ {L : List (List Rat)}, (∀ l ∈ L, l.length ≤ 8 ∧ ∀ q ∈ l, SmallR q) → Shown (L.map Enc.enc) 20 ∧ PyData.bulkAll (L.map Enc.enc) ≤ 25 * L.length
  | [], _ => ⟨⟨by simp only [List.map_nil, PyData.showableAll], by simp only [List.map_nil, PyData.leavesShortAll], by simp only [List.map_nil, PyData.hasDictAll], by simp only [List.map_nil, PyData.depthAll]; decide⟩, by simp only [List.map_nil, PyData.bulkAll]; decide⟩
  | l :: L, h => by
    obtain ⟨⟨i1, i2, i3, i4⟩, i5⟩ := rows_shown (L := L) fun z hz => h z (by simp [hz])
    obtain ⟨hl, hq⟩ := h l (by simp)
    obtain ⟨⟨a1, a2, a3, a4⟩, a5⟩ := row_shown hq
    have e : (Enc.enc l : PyData) = .tuple (l.map Enc.enc) := rfl
    rw [List.map_cons]
    refine ⟨⟨?_, ?_, ?_, ?_⟩, ?_⟩
    · simp only [PyData.showableAll, e, PyData.showable]; rw [a1, i1]; rfl
    · simp only [PyData.leavesShortAll, e, PyData.leavesShort]; rw [a2, i2]; rfl
    · simp only [PyData.hasDictAll, e, PyData.hasDict]; rw [a3, i3]; rfl
    · simp only [PyData.depthAll, e, PyData.depth]; exact Nat.max_le.mpr ⟨by omega, i4⟩
    · simp only [PyData.bulkAll, e, PyData.bulk]; rw [a5, List.length_cons]; omega
theorem whole_shown {L : List (List Rat)} (h : ∀ l ∈ L, l.length ≤ 8 ∧ ∀ q ∈ l, SmallR q) (hL : L.length ≤ 100) :
    (Enc.enc L : PyData).showable = true ∧ (Enc.enc L : PyData).hasDict = false ∧ (Enc.enc L : PyData).depth ≤ 40 ∧ (Enc.enc L : PyData).shown.length ≤ sizeLine := by
  obtain ⟨⟨i1, i2, i3, i4⟩, i5⟩ := rows_shown h
  have e : (Enc.enc L : PyData) = .tuple (L.map Enc.enc) := rfl
  rw [e]
  refine ⟨by simp only [PyData.showable]; exact i1, by simp only [PyData.hasDict]; exact i3, by simp only [PyData.depth]; omega, ?_⟩
  have s := PyData.shown_le_bulk 1921 (by decide) (.tuple (L.map Enc.enc)) (by simp only [PyData.leavesShort]; exact i2)
  have b : (PyData.tuple (L.map Enc.enc)).bulk ≤ 2500 := by simp only [PyData.bulk]; omega
  have b2 : (1921 + 2) * (PyData.tuple (L.map Enc.enc)).bulk ≤ 1923 * 2500 := Nat.mul_le_mul_left _ b
  rw [sizeLine_eq]
  omega
end K66

/-! L4b: the pot, the law's right, the law (own work) -/
namespace K66
open PySem PySem.Spec PyProof.Rows L2
local macro_rules | `(tactic| walk_at "kp") => `(tactic| first
  | exact Kp.refl _
  | assumption
  | (refine Kp.trans (by assumption) ?_; walk_at "kp")
  | (refine Kp.trans (kp_same (by assumption)) ?_; walk_at "kp"))
local macro_rules | `(tactic| walk_at "is") => `(tactic| first
  | assumption
  | (refine Tp.mono ?_ (by assumption); walk_at "kp"))
local macro_rules | `(tactic| walk_at "x") => `(tactic| with_reducible first
  | refine x_seq ?_ | refine x_ret ?_ | refine x_asg ?_ | refine x_ifs ?_ | refine x_drop ?_ | refine x_next ?_ | refine x_call ?_ | refine x_cb ?_ | refine x_cons ?_ | refine x_nil ?_
  | refine x_op ?_ | refine x_un ?_ | refine x_c ?_ | refine x_i0 ?_ | refine x_u ?_ | refine x_eqI ?_ | refine x_neI ?_ | refine x_test ?_ | refine x_tb ?_ | refine x_bl ?_ | refine x_not ?_
  | refine x_and ?_ | refine x_or ?_ | refine x_andV ?_ | refine x_orV ?_ | refine x_notV ?_ | refine x_if ?_ | refine x_tup ?_ | refine x_lst ?_ | refine x_name ?_ | refine x_gcd ?_ | refine x_for ?_ | refine x_par ?_ | refine x_par3 ?_ | refine x_two ?_ | refine x_three ?_ | refine x_lcd ?_ | refine x_yes ?_ | refine x_isq ?_ | refine x_izip ?_ | refine x_ienum ?_ | refine x_irng ?_ | refine x_kt ?_ | refine x_isiI ?_ | refine x_isiB ?_ | refine x_chain ?_ | refine x_sl ?_ | refine x_part ?_ | refine x_nopart ?_ | refine x_isint ?_ | refine x_bm ?_ | refine x_tix ?_ )
local macro_rules | `(tactic| walk_at "v") => `(tactic| ((with_reducible refine x_var (v := ?kv) ?k1 ?_); (case k1 => exact rfl)))
local macro_rules | `(tactic| walk_at "n") => `(tactic| first
  | ((with_reducible refine x_num (q := ?kv) ?k1 ?_); (case k1 => walk_at "is"))
  | ((with_reducible refine x_den (q := ?kv) ?k1 ?_); (case k1 => walk_at "is")))
local macro_rules | `(tactic| walk_at "m") => `(tactic| ((with_reducible refine x_i ?k1 ?_); (case k1 => first | exact mw_nd (by assumption) (by assumption) | exact mw_nn (by assumption) (by assumption) | exact mw_dd (by assumption) (by assumption))))
local macro_rules | `(tactic| walk_at "tu") => `(tactic| first
  | assumption
  | (refine TupA.mono ?_ (by assumption); walk_at "kp"))
local macro_rules | `(tactic| walk_at "i") => `(tactic| first
  | ((with_reducible refine x_ix0 (us := ?ku) (v := ?kv) ?k1 ?k2 ?_); (case k1 => walk_at "tu"); (case k2 => exact rfl))
  | ((with_reducible refine x_ix1 (us := ?ku) (v := ?kv) ?k1 ?k2 ?_); (case k1 => walk_at "tu"); (case k2 => exact rfl))
  | ((with_reducible refine x_ix2 (us := ?ku) (v := ?kv) ?k1 ?k2 ?_); (case k1 => walk_at "tu"); (case k2 => exact rfl)))
local macro_rules | `(tactic| walk_at "ht") => `(tactic| refine x_t (by first | rfl | (simp; done) | (simp; omega)) ?_)
local macro_rules | `(tactic| walk_at "hf") => `(tactic| refine x_f (by first | rfl | (simp; done) | (simp; omega)) ?_)
local macro_rules | `(tactic| walk_at "g") => `(tactic| repeat (first | walk_at "x" | walk_at "v" | walk_at "n" | walk_at "i" | walk_at "m" | ((with_reducible refine x_f ?k1 ?_); (case k1 => exact rfl)) | ((with_reducible refine x_t ?k1 ?_); (case k1 => exact rfl))))

local macro_rules | `(tactic| walk_at "y") => `(tactic| with_reducible first
  | refine x_int1 ?_ | refine x_absI ?_ | refine x_dvm ?_ | refine x_lrg ?_ | refine x_rg1 ?_ | refine x_gsub ?_ | refine x_max2 ?_ | refine x_min2 ?_ | refine x_w0 ?_)
local macro_rules | `(tactic| walk_at "o") => `(tactic| ((with_reducible refine x_i ?k1 ?_); (case k1 => first | exact cmul_l (by decide) (by decide) | exact cmul_r (by decide) (by decide) | exact cmod_p (by decide) | exact cdiv_p (by decide) (by decide))))
local macro_rules | `(tactic| walk_at "g") => `(tactic| repeat (first | walk_at "x" | walk_at "v" | walk_at "y" | walk_at "n" | walk_at "i" | walk_at "m" | walk_at "o" | ((with_reducible refine x_f ?k1 ?_); (case k1 => exact rfl)) | ((with_reducible refine x_t ?k1 ?_); (case k1 => exact rfl))))

def sp_law_pot (K : PySem.W.Frag) : Sp := fun vs H Q _ => ∃ (a : Addr) (ns : List Int) (t : Nat), vs = [.ref a, .int t] ∧ SqL K H a (ns.map V.int) ∧ t ≤ 10 ∧ ∀ p H', H p = none → Same H H' → Pot H' p → Q (.ref p) H'
section
variable {P : Program} {w : World} {K : PySem.W.Frag} {mg : Str → Option Value} {base : Heap}
theorem x_lenS {H : Hp} {a : Addr} {us : List V} {Q : VK} (h : SqL K H a us) (k : Q (.int (us.length : Int)) H) : kLen K [.ref a] H Q := ⟨a, us, rfl, .inl h, k⟩
theorem ok_law_pot (T : Tx K mg) : FnOk P w K mg base CX0 1 (He.ga K "_law_pot") (fdAt K (He.ga K "_law_pot")) ["_law_script", "_law_spot"] (sp_law_pot K) := by
  refine FunD.ok T.F_law_pot sc_law_pot (fun vs H Q E h => by obtain ⟨a, ns, t, rfl, _⟩ := h; rfl) (fun cdv A outer s H vs Q E hr h => ⟨_, PSs.nox (pss_cons (ps_set (i := 2) sc_law_pot.nd rfl (by first | exact Or.inl rfl | exact Or.inr rfl) (pe_op op_add pe_int (pe_op op_mul pe_int (pv 1))))
    (pss_cons (ps_for PassesOwn.never rfl (kp_sq K false (pe_slice (ks_list K) (pv 0) po_none (po_some pe_int))) (pg_name (i := 3) sc_law_pot.nd rfl (by first | exact Or.inl rfl | exact Or.inr rfl) (Or.inl rfl)) (pss_one (ps_set (i := 2) sc_law_pot.nd rfl (by first | exact Or.inl rfl | exact Or.inr rfl) (pe_op op_mod (pe_callTy kc_int (by rfl) T.z_int bt_int (pa_cons (pe_op op_add (pe_op op_add (pe_op op_mul (pv 2) pe_int) (pe_op op_mul (pe_op op_mod (pe_callTy kc_int (by rfl) T.z_int bt_int (pa_cons (pv 3) pa_nil)) pe_int) pe_int)) pe_int) pa_nil)) pe_int))))
    (pss_cons (ps_set (i := 4) sc_law_pot.nd rfl (by first | exact Or.inl rfl | exact Or.inr rfl) (pe_ifExp (pt_cmpR op_lt (pv 1) (pe_callB (kc_len K) (by rfl) T.z_len bt_len (pa_cons (pv 0) pa_nil)) (nomark _)) (pe_callTy kc_int (by rfl) T.z_int bt_int (pa_cons (pe_ix (ki_list K) (pv 0) (pv 1) (fun _ _ => rfl)) pa_nil)) pe_int))
    (pss_cons (ps_set (i := 2) sc_law_pot.nd rfl (by first | exact Or.inl rfl | exact Or.inr rfl) (pe_op op_mod (pe_callTy kc_int (by rfl) T.z_int bt_int (pa_cons (pe_op op_add (pe_op op_add (pe_op op_mul (pv 2) pe_int) (pe_op op_mul (pe_op op_mod (pe_callTy kc_int (by rfl) T.z_int bt_int (pa_cons (pv 4) pa_nil)) pe_int) pe_int)) pe_int) pa_nil)) pe_int))
    (pss_one (ps_ret (pe_lst (pa_cons (pe_ifExp (PW.pt (pw_or (pt_cmpR op_lt (pv 4) pe_int (nomark _)) (pw_or1 (pt_cmpR op_ge (pv 4) (pe_op op_pow pe_int pe_int) (nomark _))))) (pe_callB kc_abs (by rfl) T.z_abs bt_abs (pa_cons (pv 4) pa_nil)) pe_int) (pa_cons (pv 2) (pa_cons pe_int pa_nil)))))))))), ?_⟩)
  obtain ⟨a, ns, t, rfl, ha, ht, k⟩ := h
  walk_at "g"
  refine ⟨a, ns.map V.int, rfl, ha, fun L nL => ?_⟩
  have s1 := same_new (o := .lst (cutV (ns.map V.int) none (some 16))) nL
  rw [show (16 : Int) = ((16 : Nat) : Int) from rfl, cut_hi]
  rw [show (16 : Int) = ((16 : Nat) : Int) from rfl, cut_hi] at s1
  have sL : SqX K false (upd H L (.lst ((ns.map V.int).take 16))) L ((ns.map V.int).take 16) := SqL.of upd_same
  refine ⟨L, rfl, ⟨_, sL⟩, for_it (walk_s false) (fun i σ' H' => ∃ (sd : Int) (y3 : Option V), σ' = [some (.ref a), some (.int t), some (.int sd), y3, none] ∧ H' = upd H L (.lst ((ns.map V.int).take 16)) ∧ -1000000000000 ≤ sd ∧ sd ≤ 1000000000000) ⟨_, none, rfl, rfl, by omega, by omega⟩ (fun i σ' H' _ ⟨_, _, _, e, _⟩ => by rw [e]; exact sL) ?_ ?_⟩
  · rintro i x σ' H1 H2 hi ⟨sd, y3, rfl, rfl, b1, b2⟩ ⟨rfl, g1⟩
    have gm := List.mem_of_getElem? g1
    obtain ⟨c, _, rfl⟩ := List.mem_map.mp (List.mem_of_mem_take gm)
    refine x_name ?_
    walk_at "g"
    refine ⟨_, _, rfl, rfl, ?_, ?_⟩
    · have := Int.emod_nonneg (sd * 50021 + c % 2147483489 * 5 + 23) (show (2147483543 : Int) ≠ 0 by decide)
      omega
    · have := Int.emod_lt_of_pos (sd * 50021 + c % 2147483489 * 5 + 23) (show (0 : Int) < 2147483543 by decide)
      omega
  · rintro σ' H1 ⟨sd, y3, rfl, rfl, b1, b2⟩
    have ha1 : SqL K (upd H L (.lst ((ns.map V.int).take 16))) a (ns.map V.int) := Same.seq s1 ha
    generalize upd H L (.lst ((ns.map V.int).take 16)) = H1 at s1 ha1 ⊢
    walk_at "g"
    refine x_lenS ha1 ?_
    have endp : ∀ (m sd2 : Int), 0 ≤ m → 0 ≤ sd2 → sd2 < 2147483543 → ∀ p, H1 p = none → Q (.ref p) (upd H1 p (.lst [.int m, .int sd2, .int 0])) := fun m sd2 h1 h2 h3 p hp => k p _ (s1.free hp) (s1.trans (same_new hp)) ⟨m, sd2, 0, upd_same, h1, h2, h3, Int.le_refl _⟩
    walk_at "g"
    refine x_2 (fun z => ?_) (fun z => ?_)
    · have lt : t < (ns.map V.int).length := by have := of_decide_eq_true z; omega
      have gt : (ns.map V.int)[t]? = some (.int (ns.getD t 0)) := by
        rw [List.length_map] at lt
        rw [List.getElem?_map, List.getElem?_eq_getElem lt, List.getD_eq_getElem?_getD, List.getElem?_eq_getElem lt]
        rfl
      walk_at "g"
      refine ⟨a, _, t, _, rfl, rfl, ha1, atI_nat gt, ?_⟩
      generalize ns.getD t 0 = o
      walk_at "g"
      refine x_2 (fun z => ?_) (fun z => ?_)
      · walk_at "g"
        exact ⟨by show 3 ≤ sizeLine; decide, fun p hp => endp _ _ (by omega) (Int.emod_nonneg _ (by decide)) (Int.emod_lt_of_pos _ (by decide)) p hp⟩
      · walk_at "g"
        refine x_i (show CPow 10 15 from ⟨by decide, by decide, by decide⟩) ?_
        walk_at "g"
        refine x_2 (fun z => ?_) (fun z => ?_)
        · walk_at "g"
          exact ⟨by show 3 ≤ sizeLine; decide, fun p hp => endp _ _ (by omega) (Int.emod_nonneg _ (by decide)) (Int.emod_lt_of_pos _ (by decide)) p hp⟩
        · walk_at "g"
          exact ⟨by show 3 ≤ sizeLine; decide, fun p hp => endp _ _ (by omega) (Int.emod_nonneg _ (by decide)) (Int.emod_lt_of_pos _ (by decide)) p hp⟩
    · walk_at "g"
      refine x_i (show CPow 10 15 from ⟨by decide, by decide, by decide⟩) ?_
      walk_at "g"
      exact ⟨by show 3 ≤ sizeLine; decide, fun p hp => endp _ _ (by omega) (Int.emod_nonneg _ (by decide)) (Int.emod_lt_of_pos _ (by decide)) p hp⟩
theorem ee4 {n : Nat} (h : n ≤ 4) : EE n ≤ 2 ^ 144 := by
  have h1 : EE n ≤ (2 ^ 36) ^ n := Nat.pow_le_pow_left (by decide) n
  have h2 : (2 ^ 36) ^ n = 2 ^ (36 * n) := (Nat.pow_mul ..).symm
  rw [h2] at h1
  exact Nat.le_trans h1 (Nat.pow_le_pow_right (by decide) (by omega))
theorem gg4 {n : Nat} (h : n ≤ 4) : GG n ≤ 2 ^ 456 := Nat.pow_le_pow_right (by decide) (by omega)
theorem start_dB {n : Nat} (h : n ≤ 4) : 27720 * EE n < 2 ^ 2300 :=
  Nat.lt_of_le_of_lt (Nat.mul_le_mul (show 27720 ≤ 2 ^ 15 by decide) (ee4 h)) (by rw [← Nat.pow_add]; exact Nat.pow_lt_pow_right (by decide) (by decide))
theorem start_nB {n : Nat} (h : n ≤ 4) : 27720 * GG n < 2 ^ 2300 :=
  Nat.lt_of_le_of_lt (Nat.mul_le_mul (show 27720 ≤ 2 ^ 15 by decide) (gg4 h)) (by rw [← Nat.pow_add]; exact Nat.pow_lt_pow_right (by decide) (by decide))
theorem stt_of {dim : Dim} (dk : DimOk dim) (hz : HSz dim.1) {ws st : List Rat} (wz : All 84 (2 ^ 71) ws) (wl : ws.length = dim.1.pays) {n : Nat} (hn : n ≤ 4) (ln : st.length = dim.2.length) (nn : ∀ q ∈ st, 0 ≤ q) (al : All 27720 27720 st) (one : rsum st = 1) : Stt dim ws n 27720 27720 st where
  b := ⟨dk, hz, wz, by rw [wl]; exact dk.ho.p1, ln, by decide, start_dB hn, start_nB hn, al, hn⟩
  wl := wl
  nn := nn
  so := by
    have big : (27720 : Nat) < 2 ^ 3000 := Nat.lt_of_lt_of_le (show 27720 < 2 ^ 100 by decide) (Nat.pow_le_pow_right (by decide) (by decide))
    refine ⟨27720, 27720, ⟨by decide, big⟩, ⟨?_, big⟩, al⟩
    have l8 : st.length ≤ 8 := by rw [ln, dk.ln]; exact dk.ho.n1
    exact Nat.lt_of_le_of_lt (Nat.mul_le_mul_right _ l8) (Nat.lt_of_lt_of_le (show 8 * 27720 < 2 ^ 100 by decide) (Nat.pow_le_pow_right (by decide) (by decide)))
  one := one
theorem dot_prod {st v : List Rat} {n : Nat} (al : All 27720 27720 st) (av : All (EE n) (GG n) v) : All (27720 * EE n) (27720 * GG n) (List.zipWith (fun a b => a * b) st v) := fun q hq => by
  obtain ⟨a, ha, b, hb, rfl⟩ := mem_zipWith hq
  exact (al a ha).mul (av b hb)
theorem due_so {st v : List Rat} {n : Nat} (hn : n ≤ 4) (l8 : st.length ≤ 8) (al : All 27720 27720 st) (av : All (EE n) (GG n) v) : SumOk (List.zipWith (fun a b => a * b) st v) := by
  refine ⟨_, _, ⟨Nat.mul_pos (by decide) (ee_pos n), lt3000 (start_dB hn)⟩, ⟨?_, lt3000 (start_nB hn)⟩, dot_prod al av⟩
  exact small3000 (p600 (Nat.le_trans (show (List.zipWith (fun a b => a * b) st v).length ≤ 8 by rw [List.length_zipWith]; omega) (by decide))) (start_nB hn)
theorem due_sz {st v : List Rat} {n : Nat} (hn : n ≤ 4) (l8 : st.length ≤ 8) (al : All 27720 27720 st) (av : All (EE n) (GG n) v) : Sz (dotR st v) := by
  have h : Bd (27720 * EE n) ((List.zipWith (fun a b => a * b) st v).length * (27720 * GG n)) (dotR st v) := bd_rsum (Nat.mul_pos (by decide) (ee_pos n)) _ (dot_prod al av)
  exact one_mul_sz h (p600 (Nat.le_trans (show (List.zipWith (fun a b => a * b) st v).length ≤ 8 by rw [List.length_zipWith]; omega) (by decide))) (start_dB hn) (start_nB hn)
theorem st_sz {q : Rat} (h : Bd 27720 27720 q) : Sz q := h.small (p600 (by decide)) (p600 (by decide))
theorem wor_sz {n : Nat} {q : Rat} (hn : n ≤ 4) (h : Bd (EE n) (GG n) q) : Sz q := h.sz (lt3000 (ee_lt (by omega))) (lt3000 (gg_lt (by omega)))
theorem look_sz {dim : Dim} {ws st : List Rat} {n D N : Nat} (q : Stt dim ws n D N st) : Sz (lookR ws dim n st) := by
  have b := q.b
  have : Bd (D * EE n) ((aheadL ws dim n st).length * (N * GG n)) (lookR ws dim n st) := bd_rsum (Nat.mul_pos b.d0 (ee_pos n)) _ fun z hz => by
    obtain ⟨j, hj, rfl⟩ := List.mem_map.mp hz
    exact (b.hold j).bd (List.mem_range.mp hj)
  rw [ahead_len] at this
  exact one_mul_sz this (p600 (Nat.le_trans b.dk.m3 (by decide))) b.dB b.nB
theorem wors_shown {h : House} {ws : List Rat} (tm : Tm h ws) {n : Nat} (hn : n ≤ 4) :
    (Enc.enc ((List.range (n + 1)).map (wor h ws)) : PyData).showable = true ∧ (Enc.enc ((List.range (n + 1)).map (wor h ws)) : PyData).hasDict = false ∧ (Enc.enc ((List.range (n + 1)).map (wor h ws)) : PyData).depth ≤ 40 ∧ (Enc.enc ((List.range (n + 1)).map (wor h ws)) : PyData).shown.length ≤ sizeLine := by
  refine whole_shown (fun l hl => ?_) (by rw [List.length_map, List.length_range]; omega)
  obtain ⟨i, hi, rfl⟩ := List.mem_map.mp hl
  have hi := List.mem_range.mp hi
  refine ⟨by rw [wor_len]; exact tm.ho.n1, fun q hq => ?_⟩
  have b := tm.all i q hq
  exact ⟨Nat.lt_of_le_of_lt (Nat.le_trans b.num (gg4 (by omega))) (Nat.pow_lt_pow_right (by decide) (by decide)), Nat.lt_of_le_of_lt (Nat.le_trans b.den (ee4 (by omega))) (Nat.pow_lt_pow_right (by decide) (by decide))⟩
theorem wor_at {h : House} {ws : List Rat} (n : Nat) : ((List.range (n + 1)).map (wor h ws))[n]? = some (wor h ws n) := by
  rw [List.getElem?_map, List.getElem?_range (by omega)]
  rfl
/-! ### coarser sights of a dim whose stands are alike -/
theorem map_at {marks : List Nat} {f : Nat → Nat} {s m : Nat} (h : (marks.map f)[s]? = some m) : ∃ m0, marks[s]? = some m0 ∧ m = f m0 := by
  rw [List.getElem?_map] at h
  obtain ⟨m0, g, e⟩ := Option.map_eq_some_iff.mp h
  exact ⟨m0, g, e.symm⟩
theorem even_all {h : House} {marks : List Nat} {k : Nat} (ln : marks.length = h.st.length) (hk : ∀ s ∈ h.st, s.length = k) : Even (h, marks) := fun s m g => by
  have len : ∀ i, i < h.st.length → (h.st.getD i []).length = k := fun i hi => by
    rw [List.getD_eq_getElem?_getD, List.getElem?_eq_getElem hi]
    exact hk _ (List.getElem_mem hi)
  have g2 : marks[s]? = some m := g
  have l1 := (List.getElem?_eq_some_iff.mp g2).1
  have l2 := List.idxOf_lt_length_iff.mpr (List.mem_of_getElem? g2)
  show (h.st.getD s []).length = (h.st.getD (marks.idxOf m) []).length
  rw [len s (by omega), len _ (by omega)]
theorem coarse_ok {h : House} {marks tk : List Nat} {k : Nat} (d : DimOk (h, marks)) (hk : ∀ s ∈ h.st, s.length = k) (to : TkOk (mmany marks) tk) : DimOk (h, marks.map fun m => tk.getD m 0) ∧ mmany (marks.map fun m => tk.getD m 0) = mmany tk := by
  have lt : ∀ m ∈ marks, m < tk.length := fun m hm => by rw [to.len]; exact d.lt hm
  have mem : ∀ m ∈ marks, tk.getD m 0 ∈ tk := fun m hm => by
    rw [List.getD_eq_getElem?_getD, List.getElem?_eq_getElem (lt m hm)]
    exact List.getElem_mem (lt m hm)
  have back : ∀ v ∈ tk, v ∈ marks.map fun m => tk.getD m 0 := fun v hv => by
    obtain ⟨i, hi⟩ := List.getElem?_of_mem hv
    have li := (List.getElem?_eq_some_iff.mp hi).1
    refine List.mem_map.mpr ⟨i, d.all i (by rw [← to.len]; exact li), ?_⟩
    rw [List.getD_eq_getElem?_getD, hi]
    rfl
  have ne : tk ≠ [] := fun z => by
    have := to.len
    rw [z] at this
    unfold mmany at this
    simp at this
  have ne2 : (marks.map fun m => tk.getD m 0) ≠ [] := fun z => d.ne (by simpa using z)
  have em : mtop (marks.map fun m => tk.getD m 0) = mtop tk := by
    have a := mtop_ge (back _ (mtop_mem ne))
    obtain ⟨m, hm, e⟩ := List.mem_map.mp (mtop_mem ne2)
    have b := mtop_ge (mem m hm)
    rw [e] at b
    omega
  have em2 : mmany (marks.map fun m => tk.getD m 0) = mmany tk := by unfold mmany; rw [em]
  refine ⟨⟨d.ho, by show (marks.map _).length = _; rw [List.length_map]; exact d.ln, fun m hm => ?_, fun m hm => ?_, even_all (by rw [List.length_map]; exact d.ln) hk⟩, em2⟩
  · obtain ⟨m0, h0, rfl⟩ := List.mem_map.mp hm
    exact to.m2 _ (mem m0 h0)
  · exact back m (to.all m (by rw [← em2]; exact hm))
theorem sig_map {marks : List Nat} {f : Nat → Nat} {s : Nat} (h : s < marks.length) : sig (marks.map f) s = f (sig marks s) := by
  unfold sig
  rw [List.getD_eq_getElem?_getD, List.getElem?_map, List.getElem?_eq_getElem h, List.getD_eq_getElem?_getD, List.getElem?_eq_getElem h]
  rfl
theorem coarse_le {h : House} {marks tk : List Nat} {k : Nat} (d : DimOk (h, marks)) (hk : ∀ s ∈ h.st, s.length = k + 1) (to : TkOk (mmany marks) tk) (ws : List Rat) (n : Nat) (x : List Rat) (hx : x.length = marks.length) :
    lookR ws (h, marks.map fun m => tk.getD m 0) n x ≤ lookR ws (h, marks) n x := by
  obtain ⟨d2, em⟩ := coarse_ok d hk to
  refine look_coarse (f := fun m => tk.getD m 0) d d2 hk (fun s hs => sig_map hs) (fun m hm => ?_) ws n x hx
  rw [em]
  have lt : m < tk.length := by rw [to.len]; exact hm
  have : tk.getD m 0 ∈ tk := by
    rw [List.getD_eq_getElem?_getD, List.getElem?_eq_getElem lt]
    exact List.getElem_mem lt
  have := mtop_ge this
  unfold mmany
  omega
theorem coarse_eq {h : House} {marks tk : List Nat} {k : Nat} (d : DimOk (h, marks)) (hk : ∀ s ∈ h.st, s.length = k + 1) (to : TkOk (mmany marks) tk) (hm : mtop (marks.map fun m => tk.getD m 0) = mtop marks) (ws : List Rat) (n : Nat) (x : List Rat) (hx : x.length = marks.length) :
    lookR ws (h, marks.map fun m => tk.getD m 0) n x = lookR ws (h, marks) n x := by
  obtain ⟨d2, em⟩ := coarse_ok d hk to
  have mm : mmany tk = mmany marks := by rw [← em]; unfold mmany; rw [hm]
  have nd := to.inj mm
  refine Rat.le_antisymm (coarse_le d hk to ws n x hx) ?_
  refine look_coarse (f := fun v => tk.idxOf v) d2 d hk (fun s hs => ?_) (fun v hv => ?_) ws n x (by rw [List.length_map]; exact hx)
  · rw [List.length_map] at hs
    rw [sig_map hs]
    have l := (sig_lt d hs).2
    have lt : sig marks s < tk.length := by rw [to.len]; exact l
    have e : tk.getD (sig marks s) 0 = tk[sig marks s] := by rw [List.getD_eq_getElem?_getD, List.getElem?_eq_getElem lt]; rfl
    show sig marks s = tk.idxOf (tk.getD (sig marks s) 0)
    rw [e, nd.idxOf_getElem]
  · have : v ∈ tk := to.all v (by rw [← em]; exact hv)
    have := List.idxOf_lt_length_iff.mpr this
    rw [to.len] at this
    exact this
/-- marks that are a shuffle of the stands -/
theorem own_ok {h : House} {marks : List Nat} (ho : HouseOk h) (pm : marks.Perm (List.range h.st.length)) (h3 : h.st.length ≤ 3) : DimOk (h, marks) ∧ marks.Nodup := by
  have nd : marks.Nodup := pm.nodup_iff.mpr List.nodup_range
  have ln : marks.length = h.st.length := by rw [pm.length_eq, List.length_range]
  have lt : ∀ m ∈ marks, m < h.st.length := fun m hm => List.mem_range.mp (pm.mem_iff.mp hm)
  have all : ∀ m, m < h.st.length → m ∈ marks := fun m hm => pm.mem_iff.mpr (List.mem_range.mpr hm)
  have n0 := ho.n0
  have mm : mmany marks = h.st.length := mmany_of lt (all _ (by omega)) (by omega)
  refine ⟨⟨ho, ln, fun m hm => by have := lt m hm; omega, fun m hm => all m (by rw [← mm]; exact hm), fun s m g => ?_⟩, nd⟩
  have g2 : marks[s]? = some m := g
  obtain ⟨l1, e⟩ := List.getElem?_eq_some_iff.mp g2
  show (h.st.getD s []).length = (h.st.getD (marks.idxOf m) []).length
  rw [← e, nd.idxOf_getElem]
end
end K66

/-! L4c: the law's right, the law (own work) -/
namespace K66
open PySem PySem.Spec PyProof.Rows L2
local macro_rules | `(tactic| walk_at "kp") => `(tactic| first
  | exact Kp.refl _
  | assumption
  | (refine Kp.trans (by assumption) ?_; walk_at "kp")
  | (refine Kp.trans (kp_same (by assumption)) ?_; walk_at "kp"))
local macro_rules | `(tactic| walk_at "is") => `(tactic| first
  | assumption
  | (refine Tp.mono ?_ (by assumption); walk_at "kp"))
local macro_rules | `(tactic| walk_at "x") => `(tactic| with_reducible first
  | refine x_seq ?_ | refine x_ret ?_ | refine x_asg ?_ | refine x_ifs ?_ | refine x_drop ?_ | refine x_next ?_ | refine x_call ?_ | refine x_cb ?_ | refine x_cons ?_ | refine x_nil ?_
  | refine x_op ?_ | refine x_un ?_ | refine x_c ?_ | refine x_i0 ?_ | refine x_u ?_ | refine x_eqI ?_ | refine x_neI ?_ | refine x_test ?_ | refine x_tb ?_ | refine x_bl ?_ | refine x_not ?_
  | refine x_and ?_ | refine x_or ?_ | refine x_andV ?_ | refine x_orV ?_ | refine x_notV ?_ | refine x_if ?_ | refine x_tup ?_ | refine x_lst ?_ | refine x_name ?_ | refine x_gcd ?_ | refine x_for ?_ | refine x_par ?_ | refine x_par3 ?_ | refine x_two ?_ | refine x_three ?_ | refine x_lcd ?_ | refine x_yes ?_ | refine x_isq ?_ | refine x_izip ?_ | refine x_ienum ?_ | refine x_irng ?_ | refine x_kt ?_ | refine x_isiI ?_ | refine x_isiB ?_ | refine x_chain ?_ | refine x_sl ?_ | refine x_part ?_ | refine x_nopart ?_ | refine x_isint ?_ | refine x_bm ?_ | refine x_tix ?_ )
local macro_rules | `(tactic| walk_at "v") => `(tactic| ((with_reducible refine x_var (v := ?kv) ?k1 ?_); (case k1 => exact rfl)))
local macro_rules | `(tactic| walk_at "n") => `(tactic| first
  | ((with_reducible refine x_num (q := ?kv) ?k1 ?_); (case k1 => walk_at "is"))
  | ((with_reducible refine x_den (q := ?kv) ?k1 ?_); (case k1 => walk_at "is")))
local macro_rules | `(tactic| walk_at "m") => `(tactic| ((with_reducible refine x_i ?k1 ?_); (case k1 => first | exact mw_nd (by assumption) (by assumption) | exact mw_nn (by assumption) (by assumption) | exact mw_dd (by assumption) (by assumption))))
local macro_rules | `(tactic| walk_at "tu") => `(tactic| first
  | assumption
  | (refine TupA.mono ?_ (by assumption); walk_at "kp"))
local macro_rules | `(tactic| walk_at "i") => `(tactic| first
  | ((with_reducible refine x_ix0 (us := ?ku) (v := ?kv) ?k1 ?k2 ?_); (case k1 => walk_at "tu"); (case k2 => exact rfl))
  | ((with_reducible refine x_ix1 (us := ?ku) (v := ?kv) ?k1 ?k2 ?_); (case k1 => walk_at "tu"); (case k2 => exact rfl))
  | ((with_reducible refine x_ix2 (us := ?ku) (v := ?kv) ?k1 ?k2 ?_); (case k1 => walk_at "tu"); (case k2 => exact rfl)))
local macro_rules | `(tactic| walk_at "ht") => `(tactic| refine x_t (by first | rfl | (simp; done) | (simp; omega)) ?_)
local macro_rules | `(tactic| walk_at "hf") => `(tactic| refine x_f (by first | rfl | (simp; done) | (simp; omega)) ?_)
local macro_rules | `(tactic| walk_at "g") => `(tactic| repeat (first | walk_at "x" | walk_at "v" | walk_at "n" | walk_at "i" | walk_at "m" | ((with_reducible refine x_f ?k1 ?_); (case k1 => exact rfl)) | ((with_reducible refine x_t ?k1 ?_); (case k1 => exact rfl))))

local macro_rules | `(tactic| walk_at "y") => `(tactic| with_reducible first
  | refine x_int1 ?_ | refine x_absI ?_ | refine x_dvm ?_ | refine x_lrg ?_ | refine x_rg1 ?_ | refine x_gsub ?_ | refine x_max2 ?_ | refine x_min2 ?_ | refine x_w0 ?_)
local macro_rules | `(tactic| walk_at "o") => `(tactic| ((with_reducible refine x_i ?k1 ?_); (case k1 => first | exact cmul_l (by decide) (by decide) | exact cmul_r (by decide) (by decide) | exact cmod_p (by decide) | exact cdiv_p (by decide) (by decide))))
local macro_rules | `(tactic| walk_at "g") => `(tactic| repeat (first | walk_at "x" | walk_at "v" | walk_at "y" | walk_at "n" | walk_at "i" | walk_at "m" | walk_at "o" | ((with_reducible refine x_f ?k1 ?_); (case k1 => exact rfl)) | ((with_reducible refine x_t ?k1 ?_); (case k1 => exact rfl))))

def sp_law_right (K : PySem.W.Frag) : Sp := fun vs H Q _ => ∃ p : Addr, vs = [.ref p] ∧ Pot H p ∧ ∀ H', PF p H H' → Q (.bl true) H'
def sp_law (K : PySem.W.Frag) : Sp := fun vs H Q _ => ∃ (a : Addr) (ns : List Int), vs = [.ref a] ∧ SqL K H a (ns.map V.int) ∧ ns.length ≤ 1000 ∧ ∀ H', Q (.bl true) H'
theorem x_neS {H : Hp} {Q : VK} {a : Str} (h : Q (.bl false) H) : rNe (.str a) (.str a) H Q := ⟨rfl, by
  rw [decide_eq_true rfl]
  exact h⟩
theorem x_isN {H : Hp} {Q : VK} {a : Addr} (h : Q (.bl false) H) : ((V.non = V.non) ∧ Q (.bl (decide (V.ref a = V.non))) H) := ⟨rfl, h⟩
structure Hid (G : Prop) : Prop where
  out : G
theorem x_both {c : Bool} {A B G : Prop} (b : Hid G → B) (a : Hid G → c = true → A) (g : G) : if c = true then A else B := by
  cases c with
  | true => rw [if_pos rfl]; exact a ⟨g⟩ rfl
  | false => rw [if_neg (by decide)]; exact b ⟨g⟩
section
variable {P : Program} {w : World} {K : PySem.W.Frag} {mg : Str → Option Value} {base : Heap}
theorem ok_law_right (T : Tx K mg) : FnG P w K mg base 17 (He.ga K "_law_right") (fdAt K (He.ga K "_law_right")) ["_law_pot_here"] (sp_law_right K) := by
  refine fng_of T.F_law_right sc_law_right (fun vs H Q E h => by obtain ⟨p, rfl, _⟩ := h; rfl) (fun cdv A outer s H vs Q E hgd hr h => ⟨_, PSs.nox (pss_cons (ps_set (i := 1) sc_law_right.nd rfl (by first | exact Or.inl rfl | exact Or.inr rfl) (pe_call (ok_law_dim T) (hr.mono (by decide)) (by rfl) T.m_law_dim T.F_law_dim.kp (b_law_dim T) .nil pass0 (pa_cons (pv 0) (pa_cons (pe_tup (pa_cons pe_int (pa_cons pe_int (pa_cons pe_int (pa_cons pe_int (pa_cons pe_int (pa_cons pe_int pa_nil))))))) (pa_cons (pe_tup (pa_cons (pe_call (ok_law_pick T) (hr.mono (by decide)) (by rfl) T.m_law_pick T.F_law_pick.kp (b_law_pick T) .nil pass0 (pa_cons (pv 0) (pa_cons (pe_tup (pa_cons pe_int (pa_cons pe_int (pa_cons pe_int (pa_cons pe_int pa_nil))))) pa_nil))) pa_nil)) pa_nil)))))
    (pss_cons (ps_par3 (i := 2) (j := 3) (l := 4) rfl sc_law_right.nd rfl rfl rfl (by decide) (by decide) (by decide) rfl rfl rfl (pa_cons (pe_ix (ki_tup K) (pv 1) pe_int (fun _ _ => rfl)) (pa_cons (pe_call (ok_law_weights T) (hr.mono (by decide)) (by rfl) T.m_law_weights T.F_law_weights.kp (b_law_weights T) .nil pass0 (pa_cons (pv 0) (pa_cons (pe_ix (ki_tup K) (pe_ix (ki_tup K) (pv 1) pe_int (fun _ _ => rfl)) pe_int (fun _ _ => rfl)) pa_nil))) (pa_cons (pe_call (ok_law_odds T) (hr.mono (by decide)) (by rfl) T.m_law_odds T.F_law_odds.kp (b_law_odds T) .nil pass0 (pa_cons (pv 0) (pa_cons (pe_callB (kc_len K) (by rfl) T.z_len bt_len (pa_cons (pe_ix (ki_tup K) (pv 1) pe_int (fun _ _ => rfl)) pa_nil)) pa_nil))) pa_nil))) (by rfl))
    (pss_cons (ps_par (i := 5) (j := 6) rfl sc_law_right.nd rfl rfl (by decide) rfl rfl (pa_cons (pe_call (ok_law_few T) (hr.mono (by decide)) (by rfl) T.m_law_few T.F_law_few.kp (b_law_few T) .nil pass0 (pa_cons (pv 0) (pa_cons (pe_call (ok_law_deeds T) (hr.mono (by decide)) (by rfl) T.m_law_deeds T.F_law_deeds.kp (b_law_deeds T) .nil pass0 (pa_cons (pv 1) pa_nil)) (pa_cons pe_int pa_nil)))) (pa_cons (pe_call (ok_law_other_sight T) (hr.mono (by decide)) (by rfl) T.m_law_other_sight T.F_law_other_sight.kp (b_law_other_sight T) .nil pass0 (pa_cons (pv 0) (pa_cons (pe_ix (ki_tup K) (pv 1) pe_int (fun _ _ => rfl)) pa_nil))) pa_nil)) (by rfl))
    (pss_cons (ps_if (pt_cmpR op_ne (pe_callB (kc_repr K hgd hr.units) (by rfl) T.z_repr bt_repr (pa_cons (pe_call (ok_timed_worths T) (hr.mono (by decide)) (by rfl) T.m_timed_worths T.F_timed_worths.kp (b_timed_worths T) .nil pass0 (pa_cons (pv 2) (pa_cons (pv 3) (pa_cons (pv 5) pa_nil)))) pa_nil)) (pe_callB (kc_repr K hgd hr.units) (by rfl) T.z_repr bt_repr (pa_cons (pe_call (ok_law_timed T) (hr.mono (by decide)) (by rfl) T.m_law_timed T.F_law_timed.kp (b_law_timed T) .nil pass0 (pa_cons (pv 2) (pa_cons (pv 3) (pa_cons (pv 5) pa_nil)))) pa_nil)) (nomark _)) (pss_one (ps_ret pe_bl)) pss_nil)
    (pss_cons (ps_set (i := 7) sc_law_right.nd rfl (by first | exact Or.inl rfl | exact Or.inr rfl) (pe_call (ok_law_dot T) (hr.mono (by decide)) (by rfl) T.m_law_dot T.F_law_dot.kp (b_law_dot T) .nil pass0 (pa_cons (pv 4) (pa_cons (pe_ix (ki_tup K) (pe_call (ok_law_timed T) (hr.mono (by decide)) (by rfl) T.m_law_timed T.F_law_timed.kp (b_law_timed T) .nil pass0 (pa_cons (pv 2) (pa_cons (pv 3) (pa_cons (pv 5) pa_nil)))) (pv 5) (fun _ _ => rfl)) pa_nil))))
    (pss_cons (ps_set (i := 8) sc_law_right.nd rfl (by first | exact Or.inl rfl | exact Or.inr rfl) (pe_call (ok_law_number_told T) (hr.mono (by decide)) (by rfl) T.m_law_number_told T.F_law_number_told.kp (b_law_number_told T) .nil pass0 (pa_cons (pv 1) (pa_cons (pv 4) (pa_cons (pv 3) (pa_cons (pv 5) pa_nil))))))
    (pss_cons (ps_set (i := 9) sc_law_right.nd rfl (by first | exact Or.inl rfl | exact Or.inr rfl) (pe_call (ok_law_number_told T) (hr.mono (by decide)) (by rfl) T.m_law_number_told T.F_law_number_told.kp (b_law_number_told T) .nil pass0 (pa_cons (pe_tup (pa_cons (pv 2) (pa_cons (pv 6) pa_nil))) (pa_cons (pv 4) (pa_cons (pv 3) (pa_cons (pv 5) pa_nil))))))
    (pss_cons (ps_if (PW.pt (pw_or (pt_cmpR op_isN (pv 8) pe_non (nomark _)) (pw_or (pt_cmpR op_isN (pv 9) pe_non (nomark _)) (pw_or (pt_val (pe_call (ok_law_below T) (hr.mono (by decide)) (by rfl) T.m_law_below T.F_law_below.kp (b_law_below T) .nil pass0 (pa_cons (pv 7) (pa_cons (pv 8) pa_nil)))) (pw_or1 (pt_val (pe_call (ok_law_below T) (hr.mono (by decide)) (by rfl) T.m_law_below T.F_law_below.kp (b_law_below T) .nil pass0 (pa_cons (pv 8) (pa_cons (pv 9) pa_nil))))))))) (pss_one (ps_ret pe_bl)) pss_nil)
    (pss_cons (ps_if (PW.pt (pw_and (pt_cmpR op_eq (pe_callB (kc_maxT K rfl hr.units) (by rfl) T.z_max bt_max (pa_cons (pv 6) pa_nil)) (pe_callB (kc_maxT K rfl hr.units) (by rfl) T.z_max bt_max (pa_cons (pe_ix (ki_tup K) (pv 1) pe_int (fun _ _ => rfl)) pa_nil)) (nomark _)) (pw_and1 (pt_cmpR (ko_neD K hr.units) (pv 9) (pv 8) (nomark _))))) (pss_one (ps_ret pe_bl)) pss_nil)
    (pss_cons (ps_set (i := 2) sc_law_right.nd rfl (by first | exact Or.inl rfl | exact Or.inr rfl) (pe_call (ok_law_any_house T) (hr.mono (by decide)) (by rfl) T.m_law_any_house T.F_law_any_house.kp (b_law_any_house T) .nil pass0 (pa_cons (pv 0) (pa_cons (pe_tup (pa_cons pe_int (pa_cons pe_int (pa_cons pe_int (pa_cons pe_int pa_nil))))) pa_nil))))
    (pss_cons (ps_par (i := 10) (j := 4) rfl sc_law_right.nd rfl rfl (by decide) rfl rfl (pa_cons (pe_callTy (kc_tuple K) (by rfl) T.z_tuple bt_tuple (pa_cons (pe_call (ok_law_shuffled T) (hr.mono (by decide)) (by rfl) T.m_law_shuffled T.F_law_shuffled.kp (b_law_shuffled T) .nil pass0 (pa_cons (pv 0) (pa_cons (pe_callB (kc_len K) (by rfl) T.z_len bt_len (pa_cons (pe_ix (ki_tup K) (pv 2) pe_int (fun _ _ => rfl)) pa_nil)) pa_nil))) pa_nil)) (pa_cons (pe_call (ok_law_odds T) (hr.mono (by decide)) (by rfl) T.m_law_odds T.F_law_odds.kp (b_law_odds T) .nil pass0 (pa_cons (pv 0) (pa_cons (pe_callB (kc_len K) (by rfl) T.z_len bt_len (pa_cons (pe_ix (ki_tup K) (pv 2) pe_int (fun _ _ => rfl)) pa_nil)) pa_nil))) pa_nil)) (by rfl))
    (pss_cons (ps_par (i := 3) (j := 5) rfl sc_law_right.nd rfl rfl (by decide) rfl rfl (pa_cons (pe_call (ok_law_weights T) (hr.mono (by decide)) (by rfl) T.m_law_weights T.F_law_weights.kp (b_law_weights T) .nil pass0 (pa_cons (pv 0) (pa_cons (pe_ix (ki_tup K) (pv 2) pe_int (fun _ _ => rfl)) pa_nil))) (pa_cons (pe_call (ok_law_few T) (hr.mono (by decide)) (by rfl) T.m_law_few T.F_law_few.kp (b_law_few T) .nil pass0 (pa_cons (pv 0) (pa_cons (pe_call (ok_law_deeds T) (hr.mono (by decide)) (by rfl) T.m_law_deeds T.F_law_deeds.kp (b_law_deeds T) .nil pass0 (pa_cons (pe_tup (pa_cons (pv 2) (pa_cons (pv 10) pa_nil))) pa_nil)) (pa_cons pe_int pa_nil)))) pa_nil)) (by rfl))
    (pss_cons (ps_set (i := 11) sc_law_right.nd rfl (by first | exact Or.inl rfl | exact Or.inr rfl) (pe_call (ok_law_dot T) (hr.mono (by decide)) (by rfl) T.m_law_dot T.F_law_dot.kp (b_law_dot T) .nil pass0 (pa_cons (pv 4) (pa_cons (pe_ix (ki_tup K) (pe_call (ok_law_timed T) (hr.mono (by decide)) (by rfl) T.m_law_timed T.F_law_timed.kp (b_law_timed T) .nil pass0 (pa_cons (pv 2) (pa_cons (pv 3) (pa_cons (pv 5) pa_nil)))) (pv 5) (fun _ _ => rfl)) pa_nil))))
    (pss_one (ps_ret (pe_cmpR (ko_eqD K hr.units) (pe_call (ok_law_number_told T) (hr.mono (by decide)) (by rfl) T.m_law_number_told T.F_law_number_told.kp (b_law_number_told T) .nil pass0 (pa_cons (pe_tup (pa_cons (pv 2) (pa_cons (pv 10) pa_nil))) (pa_cons (pv 4) (pa_cons (pv 3) (pa_cons (pv 5) pa_nil))))) (pv 11) (nomark _))))))))))))))))), ?_⟩)
  obtain ⟨p, rfl, hp, k⟩ := h
  walk_at "g"
  refine ⟨by show 6 ≤ sizeLine; decide, fun t1 n1 => ?_⟩
  have f1 : PF p H _ := (PF.of (Same.refl _) hp).new (o := .tup [.int 1, .int 2, .int 3, .int 3, .int 4, .int 2]) n1
  have u1 : TupA K (upd H t1 (.tup [.int 1, .int 2, .int 3, .int 3, .int 4, .int 2])) t1 (iv [1, 2, 3, 3, 4, 2]) := .of upd_same
  generalize upd H t1 (.tup [.int 1, .int 2, .int 3, .int 3, .int 4, .int 2]) = H1 at f1 u1 ⊢
  walk_at "g"
  refine ⟨by show 4 ≤ sizeLine; decide, fun t2 n2 => ?_⟩
  have f2 := f1.new (o := .tup [.int 1, .int 2, .int 2, .int 3]) n2
  walk_at "g"
  refine ⟨p, t2, iv [1, 2, 2, 3], rfl, f2.2, .of upd_same, (fun z => by cases z), by show 4 ≤ 1000; decide, fun v H3 hv f3 => ?_⟩
  obtain ⟨dk, hdk, rfl⟩ := mem_iv hv
  have dk4 : 1 ≤ dk ∧ dk ≤ 4 := by
    have : ∀ x ∈ ([1, 2, 2, 3] : List Nat), 1 ≤ x ∧ x ≤ 4 := by decide
    exact this dk hdk
  have u3 := (u1.mono (kp_same (same_new (o := .tup [.int 1, .int 2, .int 2, .int 3]) n2))).mono (f3.kp f2.2)
  have f03 := f2.trans f3
  walk_at "g"
  refine ⟨by show 1 ≤ sizeLine; decide, fun t3 n3 => ?_⟩
  have f4 := f03.new (o := .tup [.int (dk : Nat)]) n3
  have u4 := u3.mono (kp_same (same_new (o := .tup [.int (dk : Nat)]) n3))
  walk_at "g"
  refine ⟨p, t1, t3, [1, 2, 3, 3, 4, 2], [dk], rfl, f4.2, u4, .of upd_same, (fun z => by cases z), (fun z => by cases z), by show 6 ≤ 1000; decide, by show 1 ≤ 1000; decide, by decide, (fun x hx => by rw [List.mem_singleton.mp hx]; exact dk4), fun vd dim H5 f5 hdim dok hsz l4 hk => ?_⟩
  have f05 := f4.trans f5
  obtain ⟨h, marks⟩ := dim
  have hsz : HSz h := hsz
  have l4 : h.st.length ≤ 4 := l4
  have hk : ∀ s ∈ h.st, s.length ∈ [dk] := hk
  have hk2 : ∀ s ∈ h.st, s.length = dk := fun s hs => List.mem_singleton.mp (hk s hs)
  obtain ⟨ad, x1, x2, rfl, tad, hx1, hmk⟩ := id hdim
  obtain ⟨ah, y1, y2, y3, rfl, tah, q1, q2, q3⟩ := is_house hx1
  cases is_nat q2
  obtain ⟨am, om, mus, rfl, ham, oc, od, lam⟩ := id hmk
  have el : mus.length = marks.length := isl_len lam
  have ho : HouseOk h := dok.ho
  have p0 : 1 ≤ h.pays := ho.p0
  have p1 : h.pays ≤ 4 := ho.p1
  have n8 : h.st.length ≤ 8 := ho.n1
  have n0 : 1 ≤ h.st.length := ho.n0
  have lnm : marks.length = h.st.length := dok.ln
  walk_at "g"
  refine ⟨p, h.pays, rfl, f5.2, p0, p1, fun vw ws H6 f6 hw lw bw => ?_⟩
  have k6 := f6.kp f5.2
  have tad6 := tad.mono k6
  walk_at "g"
  refine x_lenT (TupA.frz (k6 am (.frz om (.tup mus)) trivial ham)) ?_
  walk_at "g"
  refine ⟨p, mus.length, rfl, f6.2, by omega, by omega, fun vs st H7 f7 hst lst nnst alst onest => ?_⟩
  have f57 := f6.trans f7
  have k57 := f57.kp f5.2
  have lst2 : st.length = marks.length := by rw [lst]; exact el
  have hdim7 := hdim.mono k57
  walk_at "g"
  refine ⟨_, (h, marks), rfl, hdim7, dok, fun L H8 s8 nL hL => ?_⟩
  have f58 := f57.add s8
  walk_at "g"
  have dn : ∀ m ∈ (List.range (mmany marks)).map (deedsN (h, marks)), m ≤ 1000 := fun m hm => by
    obtain ⟨i, hi, rfl⟩ := List.mem_map.mp hm
    have := (dok.pos (dok.all i (List.mem_range.mp hi))).2
    omega
  have m3 : mmany marks ≤ 3 := dok.m3
  refine ⟨p, L, _, rfl, f58.2, hL, f7.2.ne nL, (fun z => by have := congrArg List.length z; rw [List.length_map, List.length_range] at this; unfold mmany at this; simp at this), by rw [List.length_map, List.length_range]; show mmany marks ≤ 1000; omega, dn, fun many H9 hmany f9 => ?_⟩
  have f59 := f58.trans f9
  have k59 := f59.kp f5.2
  have tad9 := tad.mono k59
  have hmk9 := hmk.mono k59
  walk_at "g"
  refine ⟨p, _, marks, rfl, f9.2, hmk9, ⟨dok.m2, dok.all⟩, dok.ne, by omega, fun vc tk H10 f10 tko hcm => ?_⟩
  have f510 := f59.trans f10
  have k510 := f510.kp f5.2
  obtain ⟨d2, em2⟩ := coarse_ok dok hk2 tko
  have tm : Tm h ws := ⟨ho, hsz, bw, lw⟩
  have hh10 := Tp.mono k510 hx1
  have hw10 := Tp.mono ((f7.kp f6.2).trans ((kp_same s8).trans ((f9.kp f58.2).trans (f10.kp f9.2)))) hw
  have hst10 := Tp.mono ((kp_same s8).trans ((f9.kp f58.2).trans (f10.kp f9.2))) hst
  have hdim10 := hdim.mono k510
  have tad10 := tad.mono k510
  have f010 := f05.trans f510
  obtain ⟨c1, co, us1, rfl, hc1, occ, odc, lc1⟩ := id hcm
  have cdim : ∀ (H' : Hp) (q : Addr), TupA K H' q [.ref ah, .ref c1] → Kp H10 H' → IsDim K H' (.ref q) (h, marks.map fun m => tk.getD m 0) := fun H' q tq kq => ⟨q, _, _, rfl, tq, Tp.mono kq hh10, hcm.mono kq⟩
  have stt1 : Stt (h, marks) ws many 27720 27720 st := stt_of dok hsz bw lw hmany lst2 nnst alst onest
  have stt2 : Stt (h, marks.map fun m => tk.getD m 0) ws many 27720 27720 st := stt_of d2 hsz bw lw hmany (by show st.length = (marks.map _).length; rw [List.length_map]; exact lst2) nnst alst onest
  have dk0 : dk - 1 + 1 = dk := by omega
  have hk3 : ∀ s ∈ h.st, s.length = (dk - 1) + 1 := fun s hs => by rw [hk2 s hs, dk0]
  have le1 := look_le dok ws many st lst2 nnst
  have le2 := coarse_le dok hk3 tko ws many st lst2
  have le1 : lookR ws (h, marks) many st ≤ dotR st (wor h ws many) := le1
  have st8 : st.length ≤ 8 := by omega
  -- the worths by the clock, told alike
  walk_at "g"
  refine ⟨_, vw, h, ws, many, rfl, hh10, hw10, tm, by omega, fun v1 H11 e11 hv1 => ?_⟩
  obtain ⟨b1, bs1, rfl, tb1, lb1⟩ := is_list hv1
  obtain ⟨z1, z2, z3, z4⟩ := wors_shown tm hmany
  walk_at "g"
  refine ⟨b1, _, rfl, Tp.dp hv1, z1, z2, z3, z4, ?_⟩
  walk_at "g"
  refine ⟨_, vw, h, ws, many, rfl, Tp.mono (kp_same e11) hh10, Tp.mono (kp_same e11) hw10, tm, by omega, fun v2 H12 e12 hv2 => ?_⟩
  obtain ⟨b2, bs2, rfl, tb2, lb2⟩ := is_list hv2
  have e1012 := e11.trans e12
  walk_at "g"
  refine ⟨b2, _, rfl, Tp.dp hv2, z1, z2, z3, z4, ?_⟩
  walk_at "g"
  refine x_neS ?_
  walk_at "g"
  -- the due
  refine ⟨_, vw, h, ws, many, rfl, Tp.mono (kp_same e1012) hh10, Tp.mono (kp_same e1012) hw10, tm, by omega, fun v3 H13 e13 hv3 => ?_⟩
  have e1013 := e1012.trans e13
  obtain ⟨b3, bs3, rfl, tb3, lb3⟩ := is_list hv3
  walk_at "g"
  refine x_atT tb3 lb3 (wor_at many) fun v4 hv4 => ?_
  walk_at "g"
  refine ⟨_, _, _, _, rfl, Tp.mono (kp_same e1013) hst10, hv4, fun q hq => st_sz (alst q hq), fun q hq => wor_sz hmany (tm.all many q hq), by omega, due_so hmany st8 alst (tm.all many), fun v5 H14 e14 hv5 => ?_⟩
  have e1014 := e1013.trans e14
  have k1014 := kp_same e1014
  walk_at "g"
  refine ⟨_, vw, vs, (h, marks), ws, many, 27720, 27720, st, rfl, hdim10.mono k1014, Tp.mono k1014 hw10, Tp.mono k1014 hst10, stt1, fun v6 H15 e15 hv6 => ?_⟩
  have e1015 := e1014.trans e15
  walk_at "g"
  refine ⟨by show 2 ≤ sizeLine; decide, fun q hq => ?_⟩
  have e16 := e1015.trans (same_new (o := .tup [.ref ah, .ref c1]) hq)
  have k1016 := kp_same e16
  walk_at "g"
  refine ⟨_, vw, vs, (h, marks.map fun m => tk.getD m 0), ws, many, 27720, 27720, st, rfl, cdim _ q (.of upd_same) k1016, Tp.mono k1016 hw10, Tp.mono k1016 hst10, stt2, fun v7 H17 e17 hv7 => ?_⟩
  have e1017 := e16.trans e17
  have hv6' := Tp.mono (kp_same ((same_new (o := .tup [.ref ah, .ref c1]) hq).trans e17)) hv6
  have hv5' := Tp.mono (kp_same (e15.trans ((same_new (o := .tup [.ref ah, .ref c1]) hq).trans e17))) hv5
  obtain ⟨a6, rfl, ta6⟩ := is_rat hv6'
  obtain ⟨a7, rfl, ta7⟩ := is_rat hv7
  walk_at "g"
  refine ⟨rfl, _, rfl, ?_⟩
  walk_at "g"
  refine ⟨rfl, _, rfl, ?_⟩
  walk_at "g"
  refine ⟨_, _, _, _, rfl, hv5', hv6', due_sz hmany st8 alst (tm.all many), look_sz stt1, ?_⟩
  rw [decide_eq_false (by grind)]
  walk_at "g"
  refine ⟨_, _, _, _, rfl, hv6', hv7, look_sz stt1, look_sz stt2, ?_⟩
  rw [decide_eq_false (by grind)]
  walk_at "g"
  have k1017 := kp_same e1017
  refine x_maxM (TupA.frz (e1017 _ _ hc1)) (TpAll.mono k1017 lc1) d2.ne ?_
  have tad17 := tad10.mono k1017
  have ham17 := e1017 _ _ (k510 am (.frz om (.tup mus)) trivial ham)
  walk_at "g"
  refine x_maxM (TupA.frz ham17) (TpAll.mono (k510.trans k1017) lam) dok.ne ?_
  walk_at "g"
  refine x_both (G := ?G) ?b ?a ?g
  case b =>
    intro g
    walk_at "g"
    exact g.out
  case a =>
    intro g z
    walk_at "g"
    have z : ((mtop (marks.map fun m => tk.getD m 0) : Nat) : Int) = (mtop marks : Nat) := of_decide_eq_true z
    have same : lookR ws (h, marks.map fun m => tk.getD m 0) many st = lookR ws (h, marks) many st := coarse_eq dok hk3 tko (by omega) ws many st lst2
    refine x_neR hv7 hv6' ?_
    rw [decide_eq_true same]
    walk_at "g"
    exact g.out
  have f017 := f010.add e1017
  simp only [_root_.L2.start, List.map_cons, List.map_nil, List.length_cons, List.length_nil, Nat.reduceAdd, Nat.reduceSub, List.reduceReplicate, List.cons_append, List.nil_append, List.set_cons_zero, List.set_cons_succ]
  clear f1 u1 f2 f3 u3 f03 f4 u4 f5 hdim tad hx1 hmk tah q1 q3 ham lam f6 hw k6 tad6 f7 hst f57 k57 hdim7 s8 nL hL f58 f9 f59 k59 tad9 hmk9 f10 hcm f510 k510 hh10 hw10 hst10 hdim10 tad10 hc1 lc1 cdim e11 hv1 tb1 lb1 e12 hv2 tb2 lb2 e1012 e13 hv3 e1013 tb3 lb3 hv4 e14 hv5 e1014 k1014 e15 hv6 e1015 hq e16 k1016 e17 hv7 e1017 hv6' hv5' ta6 ta7 k1017 tad17 ham17 f05 f010 n1 n2 n3 stt1 stt2 le1 le2 dn tm z1 z2 z3 z4
  -- a house whose stands are all told apart
  refine ⟨by show 4 ≤ sizeLine; decide, fun t5 n5 => ?_⟩
  have f18 := f017.new (o := .tup [.int 1, .int 2, .int 2, .int 3]) n5
  walk_at "g"
  refine ⟨p, t5, [1, 2, 2, 3], rfl, f18.2, .of upd_same, (fun z => by cases z), by show 4 ≤ 1000; decide, by decide, fun vh h2 H19 f19 hh2 ho2 hz2 l2 => ?_⟩
  have f019 := f18.trans f19
  have l3 : h2.st.length ≤ 3 := by
    have : ∀ x ∈ ([1, 2, 2, 3] : List Nat), x ≤ 3 := by decide
    exact this _ l2
  have r0 : 1 ≤ h2.st.length := ho2.n0
  have r1 : 1 ≤ h2.pays := ho2.p0
  have r4 : h2.pays ≤ 4 := ho2.p1
  obtain ⟨ah2, w1, w2, w3, rfl, tah2, i1, i2, i3⟩ := is_house hh2
  cases is_nat i2
  walk_at "g"
  refine x_len i3 ?_
  walk_at "g"
  refine ⟨p, h2.st.length, rfl, f19.2, by omega, fun L2 ml H20 f20 nL2 hL2 pm => ?_⟩
  obtain ⟨dok2, nd2⟩ := own_ok ho2 pm l3
  have lnm2 : ml.length = h2.st.length := dok2.ln
  have f1920 := f20
  walk_at "g"
  refine ⟨L2, iv ml, rfl, .inl ⟨SqL.of hL2, fun tm2 om2 nt2 oc2 od2 => ?_⟩⟩
  have s21 := same_new (o := .frz om2 (.tup (iv ml))) nt2
  have f1921 := f1920.add s21
  have hm21 : Mk K (upd H20 tm2 (.frz om2 (.tup (iv ml)))) (.ref tm2) ml := ⟨tm2, om2, iv ml, rfl, upd_same, oc2, od2, iv_isl ml⟩
  generalize upd H20 tm2 (.frz om2 (.tup (iv ml))) = H21 at s21 f1921 hm21 ⊢
  have k1921 := f1921.kp f19.2
  have tah21 := tah2.mono k1921
  walk_at "g"
  refine x_len (Tp.mono k1921 i3) ?_
  walk_at "g"
  refine ⟨p, h2.st.length, rfl, f1921.2, by omega, by omega, fun vs2 st2 H22 f22 hst2 lst22 nnst2 alst2 onest2 => ?_⟩
  have f1922 := f1921.trans f22
  have k1922 := f1922.kp f19.2
  have tah22 := tah2.mono k1922
  simp only [_root_.L2.start, List.map_cons, List.map_nil, List.length_cons, List.length_nil, Nat.reduceAdd, Nat.reduceSub, List.reduceReplicate, List.cons_append, List.nil_append, List.set_cons_zero, List.set_cons_succ]
  walk_at "g"
  refine ⟨p, h2.pays, rfl, f22.2, r1, r4, fun vw2 ws2 H23 f23 hw2 lw2 bw2 => ?_⟩
  have f1923 := f1922.trans f23
  have k2123 := (f22.kp f1921.2).trans (f23.kp f22.2)
  walk_at "g"
  refine ⟨by show 2 ≤ sizeLine; decide, fun qd nqd => ?_⟩
  have s24 := same_new (o := .tup [.ref ah2, .ref tm2]) nqd
  have f1924 := f1923.add s24
  have hd24 : IsDim K (upd H23 qd (.tup [.ref ah2, .ref tm2])) (.ref qd) (h2, ml) := ⟨qd, _, _, rfl, .of upd_same, Tp.mono (f1924.kp f19.2) hh2, hm21.mono (k2123.trans (kp_same s24))⟩
  generalize upd H23 qd (.tup [.ref ah2, .ref tm2]) = H24 at s24 f1924 hd24 ⊢
  walk_at "g"
  refine ⟨_, (h2, ml), rfl, hd24, dok2, fun L4 H25 s25 nL4 hL4 => ?_⟩
  have f1925 := f1924.add s25
  have dn2 : ∀ m ∈ (List.range (mmany ml)).map (deedsN (h2, ml)), m ≤ 1000 := fun m hm => by
    obtain ⟨i, hi, rfl⟩ := List.mem_map.mp hm
    have := (dok2.pos (dok2.all i (List.mem_range.mp hi))).2
    omega
  have m32 : mmany ml ≤ 3 := dok2.m3
  walk_at "g"
  refine ⟨p, L4, _, rfl, f1925.2, hL4, f1924.2.ne nL4, (fun z => by have := congrArg List.length z; rw [List.length_map, List.length_range] at this; unfold mmany at this; simp at this), by rw [List.length_map, List.length_range]; show mmany ml ≤ 1000; omega, dn2, fun many2 H26 hmany2 f26 => ?_⟩
  have f1926 := f1925.trans f26
  have k1926 := f1926.kp f19.2
  have k2126 := (k2123.trans ((kp_same s24).trans (kp_same s25))).trans (f26.kp f1925.2)
  have k2226 := ((f23.kp f22.2).trans ((kp_same s24).trans (kp_same s25))).trans (f26.kp f1925.2)
  have k2326 := ((kp_same s24).trans (kp_same s25)).trans (f26.kp f1925.2)
  have tm22 : Tm h2 ws2 := ⟨ho2, hz2, bw2, lw2⟩
  have hh26 := Tp.mono k1926 hh2
  have hw26 := Tp.mono k2326 hw2
  have hst26 := Tp.mono k2226 hst2
  have hm26 := hm21.mono k2126
  have lst3 : st2.length = ml.length := by omega
  have st28 : st2.length ≤ 8 := by omega
  have stt3 : Stt (h2, ml) ws2 many2 27720 27720 st2 := stt_of dok2 hz2 bw2 lw2 hmany2 lst3 nnst2 alst2 onest2
  have own := look_own dok2 ws2 many2 st2 lst3 nnst2 nd2
  have f026 := f019.trans f1926
  simp only [_root_.L2.start, List.map_cons, List.map_nil, List.length_cons, List.length_nil, Nat.reduceAdd, Nat.reduceSub, List.reduceReplicate, List.cons_append, List.nil_append, List.set_cons_zero, List.set_cons_succ]
  walk_at "g"
  refine ⟨_, vw2, h2, ws2, many2, rfl, hh26, hw26, tm22, by omega, fun v8 H27 e27 hv8 => ?_⟩
  obtain ⟨b8, bs8, rfl, tb8, lb8⟩ := is_list hv8
  walk_at "g"
  refine x_atT tb8 lb8 (wor_at many2) fun v9 hv9 => ?_
  walk_at "g"
  refine ⟨_, _, _, _, rfl, Tp.mono (kp_same e27) hst26, hv9, fun q hq => st_sz (alst2 q hq), fun q hq => wor_sz hmany2 (tm22.all many2 q hq), by omega, due_so hmany2 st28 alst2 (tm22.all many2), fun v10 H28 e28 hv10 => ?_⟩
  have e2628 := e27.trans e28
  walk_at "g"
  refine ⟨by show 2 ≤ sizeLine; decide, fun q9 hq9 => ?_⟩
  have s29 := same_new (o := .tup [.ref ah2, .ref tm2]) hq9
  have e2629 := e2628.trans s29
  have k2629 := kp_same e2629
  walk_at "g"
  refine ⟨_, vw2, vs2, (h2, ml), ws2, many2, 27720, 27720, st2, rfl, ⟨q9, _, _, rfl, .of upd_same, Tp.mono k2629 hh26, hm26.mono k2629⟩, Tp.mono k2629 hw26, Tp.mono k2629 hst26, stt3, fun v11 H30 e30 hv11 => ?_⟩
  walk_at "g"
  refine x_eqR hv11 (Tp.mono (kp_same (s29.trans e30)) hv10) ?_
  rw [decide_eq_true own]
  exact k _ (f026.add (e2629.trans e30))
theorem same_pf {H H1 H2 : Hp} {p : Addr} (e : Same H H1) (n : H p = none) (f : PF p H1 H2) : Same H H2 := fun b o q => f.1 b o (fun z => by subst z; rw [n] at q; cases q) (e b o q)
theorem ok_law (T : Tx K mg) : FnG P w K mg base 18 (He.ga K "law") (fdAt K (He.ga K "law")) ["_law_script"] (sp_law K) := by
  refine fng_of T.F_law sc_law (fun vs H Q E h => by obtain ⟨a, ns, rfl, _⟩ := h; rfl) (fun cdv A outer s H vs Q E hgd hr h => ⟨_, PSs.nox (pss_one (ps_ret (pe_callB (kc_all K rfl) (by rfl) T.z_all bt_all (pa_cons (pe_lc (own := [("_law_turn", 1)]) rfl sc_law.nd (pi_range1 rfl T.z_range (pa_cons (pe_callB (kc_max2 rfl) (by rfl) T.z_max bt_max (pa_cons pe_int (pa_cons (pe_callB (kc_min2 rfl) (by rfl) T.z_min bt_min (pa_cons (pe_callB (kc_len K) (by rfl) T.z_len bt_len (pa_cons (pv 0) pa_nil)) (pa_cons pe_int pa_nil))) pa_nil))) pa_nil)) (blkOk_by (by kernel_rfl)) (fun _ _ _ _ _ => (pg_name (i := 1) sc_law.nd rfl (Or.inl rfl) (Or.inr rfl))) (fun _ _ _ _ _ => pts_nil) (fun _ _ _ _ _ => (pe_callG (ok_law_right T) hgd (hr.mono (by decide)) (by rfl) T.m_law_right T.F_law_right.kp (b_law_right T) pass0 (pa_cons (pe_call (ok_law_pot T) (hr.mono (by decide)) (by rfl) T.m_law_pot T.F_law_pot.kp (b_law_pot T) .nil pass0 (pa_cons (pv 0) (pa_cons (pv 1) pa_nil))) pa_nil)))) pa_nil)))), ?_⟩)
  obtain ⟨a, ns, rfl, ha, hn, k⟩ := h
  walk_at "g"
  refine x_lenS ha ?_
  walk_at "g"
  have em : ∃ m : Nat, m ≤ 2 ∧ (if (if (2 : Int) < (ns.map V.int).length then (2 : Int) else ((ns.map V.int).length : Int)) > 1 then (if (2 : Int) < (ns.map V.int).length then (2 : Int) else ((ns.map V.int).length : Int)) else 1) = (m : Int) := by
    by_cases q : (2 : Int) < (ns.map V.int).length
    · exact ⟨2, by decide, by rw [if_pos q]; decide⟩
    · by_cases q2 : ((ns.map V.int).length : Int) > 1
      · exact ⟨(ns.map V.int).length, by omega, by rw [if_neg q, if_pos q2]⟩
      · exact ⟨1, by decide, by rw [if_neg q, if_neg q2]; rfl⟩
  obtain ⟨m, hm, em⟩ := em
  rw [em]
  refine ⟨m, rfl, by omega, by omega, x_lcL (K := K) ((List.range m).map fun _ => true) walk_range (by rw [List.length_map, List.length_range]; rfl) (by omega) (fun _ _ => trivial) yfn_same ?_ ?_⟩
  · rintro i x y H3 H4 R N gy e ⟨rfl, rfl⟩ done
    have li := (List.getElem?_eq_some_iff.mp gy).1
    rw [List.length_map, List.length_range] at li
    rw [List.getElem?_map] at gy
    obtain ⟨_, _, rfl⟩ := Option.map_eq_some_iff.mp gy
    refine x_name ⟨rfl, ?_⟩
    walk_at "g"
    dsimp only
    rw [Int.zero_add]
    refine ⟨a, ns, i, rfl, Same.seq e ha, by omega, fun p H5 np e5 hp => ?_⟩
    walk_at "g"
    refine ⟨p, rfl, hp, fun H6 f6 => ?_⟩
    exact done _ _ (same_pf e5 np f6) (.bl true)
  · intro L H3 zs nL e hL il
    walk_at "g"
    refine x_all hL il ?_
    rw [all_true]
    exact k _
end
end K66

/-! WalkG: the law's def at its call, from its promise (own work) -/
namespace K66
open PySem PySem.Spec PyProof.Rows L2
theorem walkG {l : PySem.W.OpenLaw} {n k : Nat} {q : Program} {loose : List Str} {XP : (Str → Option Value) → Heap → Prop} {YP : World → Heap → Prop} {d : DefRec} {x : Str} (hn : l.most = some n) (hn2 : n ≤ sizeLine) (hdf : d.params.defaults = []) (hr : Room k callerA)
    (F : ∀ (w : World) (mg : Str → Option Value) (fa : Addr) (h : Heap), YP w h → h.Ns mainGlobals mg → mg d.name = some (.ref fa) → ∃ (K : PySem.W.Frag) (fd : FuncData) (sp : Sp), K.In h ∧ (∀ (s : Shared) (u : Value), BindsTo s fd ⟨[u], []⟩ [(x, u)]) ∧
      (∀ (H : Hp) (a : Addr) (ns : List Int), ns.length ≤ n → SqL K H a (ns.map V.int) → sp [.ref a] H (fun v _ => v = .bl true) fun _ _ _ => False) ∧ ∀ base : Heap, K.In base → base.Ns mainGlobals mg → FnG l.prog w K mg base k fa fd [x] sp) :
    PySem.W.WalkO q loose XP YP l.row.toRowW d [] (fun f vs => PySem.call f vs) := by
  refine Att.attach_call hn hdf fun w s0 s1 mg mb fa o pm cd doc a us ns G Y _ _ _ hmg hobj hints hlen hg => ?_
  obtain ⟨K, fd, sp, KX, hb, hsp, hF⟩ := F w mg fa _ Y G.T.g hmg
  exact lawG (n := n) KX G.T.g G.T.b G.T.builtins G.T.nolimit hg hobj hints (Nat.le_trans hlen hn2) hr hF hb fun H _ hS => hsp H a ns hlen hS
end K66

open PySem PySem.W PySem.Calls PyProof.Rows L2
theorem PySem.Challenge.cw_deedhouses_k66_whole_finer_sights_and_al_holds : PySem.Challenge.rw_deedhouses_k66_whole_finer_sights_and_al.Holds := by
  w_on; o_law
  refine HandSHeadRun.head_imp (r := K66.RR) (q := view K66.RR.prog [0, 96]) (H := K66.hookK) (ob := K66.obT) (M := 8000) (loose := K66.looseL) (d := HandSHeadRun.topDef K66.RR.prog 96) (kwd := []) K66.obT_eq K66.runK
    (by kernel_rfl) (by kernel_rfl) (by kernel_rfl) (by rfl) (by first | assumption | decide +kernel) (by decide +kernel) ⟨rfl, rfl, rfl, rfl, rfl, by decide +kernel⟩ ?hw ?hc
  case hw => w_witness2
  case hc =>
    refine K66.walkG (l := PySem.Challenge.rw_deedhouses_k66_whole_finer_sights_and_al) (n := 63) (k := 18) (x := "_law_script") rfl (by decide) (by kernel_rfl) ⟨rfl, by decide, by decide⟩ fun w mg fa h Y G hm => ?_
    obtain ⟨K, KX, c, e⟩ := Y
    have T := K66.tx_of KX G c e
    have nm : (HandSHeadRun.topDef K66.RR.prog 96).name = ("law" : PySem.Str) := by kernel_rfl
    rw [nm] at hm
    cases T.m_law.symm.trans hm
    have b := FunD.bindsA (ps := ["_law_script"]) T.F_law fun _ _ _ _ _ _ us hl => match us, hl with | [_], _ => rfl
    exact ⟨K, K66.fdAt K (He.ga K "law"), K66.sp_law K, KX, fun s u => b s [u] rfl, fun H a ns hl hS => ⟨a, ns, rfl, hS, Nat.le_trans hl (by decide), fun _ => rfl⟩, fun base _ _ => K66.ok_law T⟩

