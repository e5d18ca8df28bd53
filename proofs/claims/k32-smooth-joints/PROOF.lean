import PyProof.Rows.All
import Wide.All
import OpenK.AllK
import Wide.FinOn
import HandS.ForMost
import HandS.Defaults
import HandS.Head0
import HandS.Head1
import HandS.Head2
import HandS.Head3
import HandS.HeadEnd
import HandS.HeadHook1
import HandS.HeadHook2
import PySem.Challenge.RW_blendcurves_k32_whole_smooth_joints
import HandS.Deep
import HandS.Strs
import HandS.Style
import HandS.TupAny
import HandS.Gcd
import HandS.Wide
import HandS.WideBits
import HandS.IsInst
import HandS.Star
import HandS.Zip
import KE.GoesEnum
import KE.DataFind
section
set_option linter.all false
namespace Bc
/-! ### finite sums -/
def sm : Nat → (Nat → Rat) → Rat
  | 0, _ => 0
  | n + 1, f => sm n f + f n
theorem sm_congr {n : Nat} {f g : Nat → Rat} (h : ∀ i, i < n → f i = g i) : sm n f = sm n g := by
  induction n with
  | zero => rfl
  | succ n ih =>
    show sm n f + f n = sm n g + g n
    rw [ih (fun i hi => h i (by omega)), h n (by omega)]
theorem sm_zero {n : Nat} {f : Nat → Rat} (h : ∀ i, i < n → f i = 0) : sm n f = 0 := by
  induction n with
  | zero => rfl
  | succ n ih =>
    show sm n f + f n = 0
    rw [ih (fun i hi => h i (by omega)), h n (by omega)]
    grind
theorem sm_add (n : Nat) (f g : Nat → Rat) : sm n (fun i => f i + g i) = sm n f + sm n g := by
  induction n with
  | zero => show (0 : Rat) = 0 + 0; grind
  | succ n ih =>
    show sm n (fun i => f i + g i) + (f n + g n) = sm n f + f n + (sm n g + g n)
    rw [ih]; grind
theorem sm_mul (n : Nat) (a : Rat) (f : Nat → Rat) : sm n (fun i => a * f i) = a * sm n f := by
  induction n with
  | zero => show (0 : Rat) = a * 0; grind
  | succ n ih =>
    show sm n (fun i => a * f i) + a * f n = a * (sm n f + f n)
    rw [ih]; grind
theorem sm_sub (n : Nat) (f g : Nat → Rat) : sm n (fun i => f i - g i) = sm n f - sm n g := by
  induction n with
  | zero => show (0 : Rat) = 0 - 0; grind
  | succ n ih =>
    show sm n (fun i => f i - g i) + (f n - g n) = sm n f + f n - (sm n g + g n)
    rw [ih]; grind
theorem sm_head (n : Nat) (f : Nat → Rat) : sm (n + 1) f = f 0 + sm n (fun i => f (i + 1)) := by
  induction n with
  | zero => show (0 : Rat) + f 0 = f 0 + 0; grind
  | succ n ih =>
    show sm (n + 1) f + f (n + 1) = f 0 + (sm n (fun i => f (i + 1)) + f (n + 1))
    rw [ih]; grind
theorem sm_swap (n m : Nat) (f : Nat → Nat → Rat) : sm n (fun i => sm m (fun j => f i j)) = sm m (fun j => sm n (fun i => f i j)) := by
  induction n with
  | zero =>
    show (0 : Rat) = sm m (fun j => 0)
    rw [sm_zero]; intros; rfl
  | succ n ih =>
    show sm n (fun i => sm m (fun j => f i j)) + sm m (fun j => f n j) = sm m (fun j => sm n (fun i => f i j) + f n j)
    rw [ih, sm_add]

/-! ### powers -/
theorem rpow_succ (x : Rat) (n : Nat) : x ^ (n + 1) = x ^ n * x := Rat.pow_succ x n

/-! ### polynomials by coefficients -/
def pe (n : Nat) (p : Nat → Rat) (x : Rat) : Rat := sm (n + 1) (fun k => p k * x ^ k)
theorem two_pow_ne {k n : Nat} (h : k < n) : ((2 : Rat) ^ k - 2 ^ n) ≠ 0 := by
  induction n with
  | zero => omega
  | succ n ih =>
    have hp : ∀ m : Nat, (1 : Rat) ≤ 2 ^ m := by
      intro m
      induction m with
      | zero => rw [Rat.pow_zero]; exact Rat.le_refl
      | succ m ih => rw [rpow_succ]; grind
    have hm : ∀ a b : Nat, a ≤ b → (2 : Rat) ^ a ≤ 2 ^ b := by
      intro a b hab
      induction hab with
      | refl => exact Rat.le_refl
      | step _ ih => rw [Nat.succ_eq_add_one, rpow_succ]; have := hp a; grind
    have h1 := hm k n (by omega)
    have h2 := hp n
    rw [rpow_succ]
    grind
theorem mul_pow_two (x : Rat) (k : Nat) : (2 * x) ^ k = 2 ^ k * x ^ k := by
  induction k with
  | zero => simp only [Rat.pow_zero]; grind
  | succ k ih => rw [rpow_succ, rpow_succ, rpow_succ, ih]; grind
theorem pe_zero_all : ∀ (n : Nat) (p : Nat → Rat), (∀ x, pe n p x = 0) → ∀ k, k ≤ n → p k = 0 := by
  intro n
  induction n with
  | zero =>
    intro p h k hk
    have h0 := h 0
    have e : k = 0 := by omega
    subst e
    have : (0 : Rat) + p 0 * 0 ^ 0 = 0 := h0
    rw [Rat.pow_zero] at this; grind
  | succ n ih =>
    intro p h
    have low : ∀ k, k ≤ n → p k = 0 := by
      intro k hk
      have hq : ∀ x, pe n (fun k => p k * (2 ^ k - 2 ^ (n + 1))) x = 0 := by
        intro x
        have h1 : pe (n + 1) p (2 * x) = 0 := h (2 * x)
        have h2 : pe (n + 1) p x = 0 := h x
        have e : pe n (fun k => p k * (2 ^ k - 2 ^ (n + 1))) x = pe (n + 1) p (2 * x) - 2 ^ (n + 1) * pe (n + 1) p x := by
          unfold pe
          rw [← sm_mul, ← sm_sub]
          show _ = sm (n + 1) (fun i => p i * (2 * x) ^ i - 2 ^ (n + 1) * (p i * x ^ i)) + (p (n + 1) * (2 * x) ^ (n + 1) - 2 ^ (n + 1) * (p (n + 1) * x ^ (n + 1)))
          rw [mul_pow_two x (n + 1)]
          have z : p (n + 1) * (2 ^ (n + 1) * x ^ (n + 1)) - 2 ^ (n + 1) * (p (n + 1) * x ^ (n + 1)) = 0 := by grind
          rw [z]
          have z2 : ∀ a : Rat, a + 0 = a := by intro a; grind
          rw [z2]
          refine sm_congr fun i _ => ?_
          show p i * (2 ^ i - 2 ^ (n + 1)) * x ^ i = p i * (2 * x) ^ i - 2 ^ (n + 1) * (p i * x ^ i)
          rw [mul_pow_two]; grind
        rw [e, h1, h2]; grind
      have hz := ih _ hq k hk
      have hz' : p k * (2 ^ k - 2 ^ (n + 1)) = 0 := hz
      have hne := two_pow_ne (k := k) (n := n + 1) (by omega)
      grind
    intro k hk
    by_cases e : k ≤ n
    · exact low k e
    · have e1 : k = n + 1 := by omega
      subst e1
      have h1 : sm (n + 1) (fun k => p k * 1 ^ k) + p (n + 1) * 1 ^ (n + 1) = 0 := h 1
      have h2 : sm (n + 1) (fun k => p k * 1 ^ k) = 0 := sm_zero fun i hi => by
        rw [low i (by omega)]; grind
      have h3 : ∀ m : Nat, (1 : Rat) ^ m = 1 := by
        intro m
        induction m with
        | zero => rw [Rat.pow_zero]
        | succ m ih => rw [rpow_succ, ih]; grind
      rw [h2, h3] at h1; grind

/-! ### more vectors than coordinates -/
theorem depend : ∀ (n : Nat) (v : Nat → Nat → Rat), ∃ β : Nat → Rat, (∃ k, k ≤ n ∧ β k ≠ 0) ∧ ∀ r, r < n → sm (n + 1) (fun k => β k * v k r) = 0 := by
  intro n
  induction n with
  | zero =>
    intro v
    exact ⟨fun _ => 1, ⟨0, Nat.le_refl 0, by show (1 : Rat) ≠ 0; decide⟩, fun r hr => absurd hr (Nat.not_lt_zero r)⟩
  | succ n ih =>
    intro v
    by_cases hall : ∀ k, k ≤ n → v k n = 0
    · -- all but the last have last coordinate 0
      obtain ⟨β, ⟨k, hk, hb⟩, hz⟩ := ih v
      refine ⟨fun i => if i ≤ n then β i else 0, ⟨k, by omega, by simp [hk, hb]⟩, fun r hr => ?_⟩
      show sm (n + 1) (fun k => (if k ≤ n then β k else 0) * v k r) + (if n + 1 ≤ n then β (n + 1) else 0) * v (n + 1) r = 0
      have e1 : sm (n + 1) (fun k => (if k ≤ n then β k else 0) * v k r) = sm (n + 1) (fun k => β k * v k r) := sm_congr fun i hi => by rw [if_pos (by omega)]
      rw [e1, if_neg (by omega)]
      by_cases hrn : r < n
      · rw [hz r hrn]; grind
      · have : r = n := by omega
        subst this
        rw [sm_zero fun i hi => by rw [hall i (by omega)]; grind]; grind
    · -- some v p has its last coordinate not 0
      have : ∃ p, p ≤ n ∧ v p n ≠ 0 := by
        apply Classical.byContradiction
        intro hc
        apply hall
        intro k hk
        apply Classical.byContradiction
        intro hv
        exact hc ⟨k, hk, hv⟩
      obtain ⟨p, hp, hv⟩ := this
      -- w: v with p and the last one exchanged
      let u : Nat → Nat → Rat := fun k => if k = p then v (n + 1) else v k
      let w : Nat → Nat → Rat := fun k r => u k r - u k n / v p n * v p r
      obtain ⟨β, ⟨k, hk, hb⟩, hz⟩ := ih w
      let s : Rat := sm (n + 1) (fun k => β k * (u k n / v p n))
      refine ⟨fun i => if i = p then - s else if i = n + 1 then β p else β i, ?_, fun r hr => ?_⟩
      · by_cases e : k = p
        · refine ⟨n + 1, by omega, ?_⟩
          show (if n + 1 = p then - s else if n + 1 = n + 1 then β p else β (n + 1)) ≠ 0
          rw [if_neg (by omega), if_pos rfl, ← e]; exact hb
        · refine ⟨k, by omega, ?_⟩
          show (if k = p then - s else if k = n + 1 then β p else β k) ≠ 0
          rw [if_neg e, if_neg (by omega)]; exact hb
      · -- the sum
        have key : ∀ r, sm (n + 1 + 1) (fun k => (if k = p then - s else if k = n + 1 then β p else β k) * v k r) = sm (n + 1) (fun k => β k * w k r) := by
          intro r
          have ew : sm (n + 1) (fun k => β k * w k r) = sm (n + 1) (fun k => β k * u k r) - s * v p r := by
            have e0 : sm (n + 1) (fun k => β k * w k r) = sm (n + 1) (fun k => β k * u k r - v p r * (β k * (u k n / v p n))) := sm_congr fun i _ => by
              show β i * (u i r - u i n / v p n * v p r) = _
              grind
            rw [e0, sm_sub, sm_mul]
            show _ - v p r * s = _
            grind
          rw [ew]
          show sm (n + 1) (fun k => (if k = p then - s else if k = n + 1 then β p else β k) * v k r) + (if n + 1 = p then - s else if n + 1 = n + 1 then β p else β (n + 1)) * v (n + 1) r = _
          rw [if_neg (by omega), if_pos rfl]
          -- split at p
          have split : ∀ m, p < m → m ≤ n + 1 → sm m (fun k => (if k = p then - s else if k = n + 1 then β p else β k) * v k r) = sm m (fun k => β k * u k r) - β p * v (n + 1) r + (- s) * v p r := by
            intro m
            induction m with
            | zero => intro h; omega
            | succ m ihm =>
              intro h1 h2
              show sm m (fun k => (if k = p then - s else if k = n + 1 then β p else β k) * v k r) + (if m = p then - s else if m = n + 1 then β p else β m) * v m r = sm m (fun k => β k * u k r) + β m * u m r - β p * v (n + 1) r + (- s) * v p r
              by_cases e : m = p
              · subst e
                have e1 : sm m (fun k => (if k = m then - s else if k = n + 1 then β m else β k) * v k r) = sm m (fun k => β k * u k r) := sm_congr fun i hi => by
                  show (if i = m then - s else if i = n + 1 then β m else β i) * v i r = β i * (if i = m then v (n + 1) else v i) r
                  rw [if_neg (by omega), if_neg (by omega), if_neg (by omega)]
                rw [e1, if_pos rfl]
                show _ = _ + β m * (if m = m then v (n + 1) else v m) r - _ + _
                rw [if_pos rfl]; grind
              · rw [ihm (by omega) (by omega), if_neg e, if_neg (by omega)]
                show _ = _ + β m * (if m = p then v (n + 1) else v m) r - _ + _
                rw [if_neg e]; grind
          rw [split (n + 1) (by omega) (by omega)]; grind
        rw [key r]
        by_cases hrn : r < n
        · exact hz r hrn
        · have : r = n := by omega
          subst this
          refine sm_zero fun i _ => ?_
          show β i * (u i r - u i r / v p r * v p r) = 0
          grind
end Bc
end
section
set_option linter.all false
namespace Bc
/-! ### elementary symmetric sums, binomials, blossoms -/
def es : List Rat → Nat → Rat
  | [], 0 => 1
  | [], _ + 1 => 0
  | _ :: _, 0 => 1
  | u :: us, k + 1 => es us (k + 1) + u * es us k
theorem es_zero (us : List Rat) : es us 0 = 1 := by cases us <;> rfl
theorem es_cons (u : Rat) (us : List Rat) (k : Nat) : es (u :: us) (k + 1) = es us (k + 1) + u * es us k := rfl
theorem es_perm {us vs : List Rat} (h : us.Perm vs) : ∀ k, es us k = es vs k := by
  induction h with
  | nil => intro k; rfl
  | cons x _ ih =>
    intro k
    cases k with
    | zero => rfl
    | succ k => rw [es_cons, es_cons, ih, ih]
  | swap x y l =>
    intro k
    cases k with
    | zero => rfl
    | succ k =>
      rw [es_cons, es_cons]
      cases k with
      | zero => rw [es_zero, es_zero, es_cons, es_cons]; have := es_zero l; have := es_zero (y :: l); grind
      | succ k => rw [es_cons, es_cons, es_cons, es_cons]; grind
  | trans _ _ ih1 ih2 => intro k; rw [ih1, ih2]
def ch : Nat → Nat → Rat
  | _, 0 => 1
  | 0, _ + 1 => 0
  | n + 1, k + 1 => ch n (k + 1) + ch n k
theorem ch_zero (n : Nat) : ch n 0 = 1 := by cases n <;> rfl
theorem ch_succ (n k : Nat) : ch (n + 1) (k + 1) = ch n (k + 1) + ch n k := rfl
theorem ch_big : ∀ {n k : Nat}, n < k → ch n k = 0
  | 0, k + 1, _ => rfl
  | n + 1, k + 1, h => by rw [ch_succ, ch_big (by omega), ch_big (by omega)]; grind
theorem ch_nn : ∀ n k : Nat, 0 ≤ ch n k
  | n, 0 => by rw [ch_zero]; decide
  | 0, k + 1 => by show (0 : Rat) ≤ 0; exact Rat.le_refl
  | n + 1, k + 1 => by rw [ch_succ]; have := ch_nn n (k + 1); have := ch_nn n k; grind
theorem ch_pos : ∀ {n k : Nat}, k ≤ n → 1 ≤ ch n k
  | n, 0, _ => by rw [ch_zero]; exact Rat.le_refl
  | n + 1, k + 1, h => by rw [ch_succ]; have := ch_nn n (k + 1); have := ch_pos (n := n) (k := k) (by omega); grind
theorem ch_ne {n k : Nat} (h : k ≤ n) : ch n k ≠ 0 := by have := ch_pos h; grind
theorem natc (n : Nat) : ((n + 1 : Nat) : Rat) = (n : Rat) + 1 := by
  rw [Rat.natCast_add]; rfl
theorem ch_absorb : ∀ n k : Nat, ((k + 1 : Nat) : Rat) * ch (n + 1) (k + 1) = ((n + 1 : Nat) : Rat) * ch n k
  | 0, 0 => by rw [ch_succ, ch_zero, ch_big (show 0 < 1 by omega)]; grind
  | 0, k + 1 => by rw [ch_succ, ch_big (show 0 < k + 1 by omega), ch_big (show 0 < k + 1 + 1 by omega)]; grind
  | n + 1, 0 => by
    have h := ch_absorb n 0
    rw [ch_succ, ch_zero]
    rw [ch_zero] at h
    have e1 := natc (n + 1)
    have e0 := natc 0
    rw [e1]; rw [e0] at h ⊢
    have : ((0 : Nat) : Rat) = 0 := rfl
    rw [this] at *
    grind
  | n + 1, k + 1 => by
    have h1 := ch_absorb n (k + 1)
    have h2 := ch_absorb n k
    rw [ch_succ (n + 1) (k + 1)]
    have e1 := natc (n + 1)
    have e2 := natc (k + 1)
    have e3 := ch_succ n k
    rw [e1]; rw [e2] at h1 ⊢
    grind
theorem ch_ratio (n k : Nat) : ((k + 1 : Nat) : Rat) / ch n k = ((n + 1 : Nat) : Rat) / ch (n + 1) (k + 1) := by
  have h := ch_absorb n k
  by_cases e : k ≤ n
  · have h1 := ch_ne e
    have h2 := ch_ne (n := n + 1) (k := k + 1) (by omega)
    grind
  · rw [ch_big (show n < k by omega), ch_big (show n + 1 < k + 1 by omega)]; grind
theorem es_rep (x : Rat) : ∀ n k : Nat, es (List.replicate n x) k = ch n k * x ^ k
  | 0, 0 => by rw [Rat.pow_zero]; show (1 : Rat) = 1 * 1; grind
  | 0, k + 1 => by show (0 : Rat) = 0 * _; grind
  | n + 1, 0 => by rw [es_zero, ch_zero, Rat.pow_zero]; grind
  | n + 1, k + 1 => by
    rw [List.replicate_succ, es_cons, es_rep x n (k + 1), es_rep x n k, ch_succ, rpow_succ]; grind

/-- the blossom, of the degree n -/
def bl (n : Nat) (p : Nat → Rat) (us : List Rat) : Rat := sm (n + 1) (fun k => p k * (es us k / ch n k))
theorem bl_perm {n : Nat} {p : Nat → Rat} {us vs : List Rat} (h : us.Perm vs) : bl n p us = bl n p vs := sm_congr fun k _ => by rw [es_perm h]
theorem bl_aff (n : Nat) (p : Nat → Rat) (a u v : Rat) (us : List Rat) : bl n p ((a * u + (1 - a) * v) :: us) = a * bl n p (u :: us) + (1 - a) * bl n p (v :: us) := by
  unfold bl
  rw [← sm_mul, ← sm_mul, ← sm_add]
  refine sm_congr fun k _ => ?_
  have e : es ((a * u + (1 - a) * v) :: us) k = a * es (u :: us) k + (1 - a) * es (v :: us) k := by
    cases k with
    | zero => rw [es_zero, es_zero, es_zero]; grind
    | succ k => rw [es_cons, es_cons, es_cons]; grind
  show p k * (es ((a * u + (1 - a) * v) :: us) k / ch n k) = a * (p k * (es (u :: us) k / ch n k)) + (1 - a) * (p k * (es (v :: us) k / ch n k))
  rw [e]; grind
theorem bl_diag (n : Nat) (p : Nat → Rat) (x : Rat) : bl n p (List.replicate n x) = pe n p x := sm_congr fun k hk => by
  rw [es_rep]
  have := ch_ne (n := n) (k := k) (by omega)
  grind
theorem bl_sub (n : Nat) (p q : Nat → Rat) (us : List Rat) : bl n (fun k => p k - q k) us = bl n p us - bl n q us := by
  unfold bl
  rw [← sm_sub]
  exact sm_congr fun k _ => by grind
theorem bl_congr {n : Nat} {p q : Nat → Rat} (h : ∀ k, k ≤ n → p k = q k) (us : List Rat) : bl n p us = bl n q us := sm_congr fun k hk => by rw [h k (by omega)]
/-- the derivative -/
def dr (p : Nat → Rat) : Nat → Rat := fun k => ((k + 1 : Nat) : Rat) * p (k + 1)
theorem bl_move (n : Nat) (p : Nat → Rat) (u v : Rat) (us : List Rat) : bl (n + 1) p (u :: us) = bl (n + 1) p (v :: us) + (u - v) / ((n + 1 : Nat) : Rat) * bl n (dr p) us := by
  have hn : ((n + 1 : Nat) : Rat) ≠ 0 := by rw [natc]; have : (0 : Rat) ≤ n := by exact_mod_cast Nat.zero_le n
                                            grind
  unfold bl
  rw [sm_head, sm_head (n + 1), ← sm_mul, es_zero, es_zero]
  have e : sm (n + 1) (fun i => p (i + 1) * (es (u :: us) (i + 1) / ch (n + 1) (i + 1))) = sm (n + 1) (fun i => p (i + 1) * (es (v :: us) (i + 1) / ch (n + 1) (i + 1)) + (u - v) / ((n + 1 : Nat) : Rat) * (dr p i * (es us i / ch n i))) := by
    refine sm_congr fun k _ => ?_
    rw [es_cons, es_cons]
    have r := ch_ratio n k
    have e1 : (u - v) / ((n + 1 : Nat) : Rat) * (dr p k * (es us k / ch n k)) = (u - v) / ((n + 1 : Nat) : Rat) * (p (k + 1) * es us k) * (((k + 1 : Nat) : Rat) / ch n k) := by unfold dr; grind
    rw [e1, r]
    grind
  rw [e, sm_add]; grind
def drs : Nat → (Nat → Rat) → (Nat → Rat)
  | 0, p => p
  | r + 1, p => drs r (dr p)
/-- derivatives of orders 0 to e that are 0 at x, and blossoms -/
theorem bl_flat (x : Rat) : ∀ (e d : Nat) (p : Nat → Rat), e ≤ d → (∀ r, r ≤ e → pe (d - r) (drs r p) x = 0) → ∀ v : List Rat, v.length = e → bl d p (v ++ List.replicate (d - e) x) = 0 := by
  intro e
  induction e with
  | zero =>
    intro d p _ h v hv
    have : v = [] := List.eq_nil_of_length_eq_zero hv
    subst this
    show bl d p (List.replicate d x) = 0
    rw [bl_diag]
    exact h 0 (Nat.le_refl 0)
  | succ e ih =>
    intro d p hd h v hv
    obtain ⟨d', rfl⟩ : ∃ d', d = d' + 1 := ⟨d - 1, by omega⟩
    cases v with
    | nil => simp at hv
    | cons u v =>
      have hv' : v.length = e := by simpa using hv
      show bl (d' + 1) p (u :: (v ++ List.replicate (d' + 1 - (e + 1)) x)) = 0
      rw [bl_move d' p u x]
      have e1 : d' + 1 - (e + 1) = d' - e := by omega
      have z2 : bl d' (dr p) (v ++ List.replicate (d' - e) x) = 0 := ih d' (dr p) (by omega) (fun r hr => by
        have := h (r + 1) (by omega)
        rw [show d' + 1 - (r + 1) = d' - r by omega] at this
        exact this) v hv'
      have z1 : bl (d' + 1) p (v ++ List.replicate (d' + 1 - e) x) = 0 := ih (d' + 1) p (by omega) (fun r hr => h r (by omega)) v hv'
      have pm : (x :: (v ++ List.replicate (d' - e) x)).Perm (v ++ List.replicate (d' + 1 - e) x) := by
        rw [show d' + 1 - e = (d' - e) + 1 by omega, List.replicate_succ]
        exact List.perm_middle.symm
      rw [e1, bl_perm pm, z1, z2]; grind

/-! ### a symmetric function that is affine in each place -/
structure SymAff (B : List Rat → Rat) : Prop where
  perm : ∀ {us vs : List Rat}, us.Perm vs → B us = B vs
  aff : ∀ (a u v : Rat) (us : List Rat), B ((a * u + (1 - a) * v) :: us) = a * B (u :: us) + (1 - a) * B (v :: us)
theorem bl_symAff (n : Nat) (p : Nat → Rat) : SymAff (bl n p) := ⟨bl_perm, bl_aff n p⟩
theorem SymAff.tail {B : List Rat → Rat} (h : SymAff B) (r : List Rat) : SymAff (fun us => B (us ++ r)) :=
  ⟨fun p => h.perm (p.append_right r), fun a u v us => h.aff a u v (us ++ r)⟩
/-- 0 at two different places, so everywhere -/
theorem SymAff.line {B : List Rat → Rat} (h : SymAff B) {a b : Rat} {us : List Rat} (hab : a ≠ b) (ha : B (a :: us) = 0) (hb : B (b :: us) = 0) (u : Rat) : B (u :: us) = 0 := by
  have e : u = (u - b) / (a - b) * a + (1 - (u - b) / (a - b)) * b := by grind
  rw [e, h.aff, ha, hb]; grind
/-- e + 1 windows into places left and right of a knot -/
theorem windows (L R : Nat → Rat) : ∀ (e : Nat) (G : List Rat → Rat), SymAff G → (∀ a b, a < e → b < e → L a ≠ R b) →
    (∀ s, s ≤ e → G ((List.range s).map L ++ (List.range (e - s)).map R) = 0) → ∀ v : List Rat, v.length = e → G v = 0 := by
  intro e
  induction e with
  | zero =>
    intro G _ _ h v hv
    have : v = [] := List.eq_nil_of_length_eq_zero hv
    subst this
    exact h 0 (Nat.le_refl 0)
  | succ e ih =>
    intro G hG hne h v hv
    cases v with
    | nil => simp at hv
    | cons u v =>
      have hv' : v.length = e := by simpa using hv
      have := ih (fun w => G (w ++ [u])) (hG.tail [u]) (fun a b ha hb => hne a b (by omega) (by omega)) (fun s hs => by
        show G (((List.range s).map L ++ (List.range (e - s)).map R) ++ [u]) = 0
        rw [hG.perm (List.perm_append_singleton u _)]
        refine hG.line (hne s (e - s) (by omega) (by omega)) ?_ ?_ u
        · have w := h (s + 1) (by omega)
          rw [show e + 1 - (s + 1) = e - s by omega, List.range_succ, List.map_append, List.map_singleton] at w
          rw [hG.perm (show (L s :: ((List.range s).map L ++ (List.range (e - s)).map R)).Perm ((List.range s).map L ++ [L s] ++ (List.range (e - s)).map R) by
            rw [List.append_assoc]
            exact (List.perm_middle).symm)]
          exact w
        · have w := h s (by omega)
          rw [show e + 1 - s = (e - s) + 1 by omega, List.range_succ, List.map_append, List.map_singleton, ← List.append_assoc] at w
          rw [← hG.perm (List.perm_append_singleton (R (e - s)) _)]
          exact w) v hv'
      have w : G (v ++ [u]) = 0 := this
      rw [hG.perm (List.perm_append_singleton u v)] at w
      exact w
end Bc
end
section
set_option linter.all false
namespace Bc
/-! ### the pieces of basis functions -/
def N (t : Nat → Rat) : Nat → Nat → Nat → Rat → Rat
  | 0, i, j, _ => if i = j then 1 else 0
  | d + 1, i, j, x => (x - t i) / (t (i + d + 1) - t i) * N t d i j x + (t (i + d + 2) - x) / (t (i + d + 2) - t (i + 1)) * N t d (i + 1) j x
theorem N_succ (t : Nat → Rat) (d i j : Nat) (x : Rat) : N t (d + 1) i j x = (x - t i) / (t (i + d + 1) - t i) * N t d i j x + (t (i + d + 2) - x) / (t (i + d + 2) - t (i + 1)) * N t d (i + 1) j x := rfl
theorem N_out (t : Nat → Rat) (x : Rat) (j : Nat) : ∀ d i, (j < i ∨ i + d < j) → N t d i j x = 0
  | 0, i, h => by
    show (if i = j then (1 : Rat) else 0) = 0
    rw [if_neg (by omega)]
  | d + 1, i, h => by
    rw [N_succ, N_out t x j d i (by omega), N_out t x j d (i + 1) (by omega)]; grind
/-- the m knots behind number i -/
def win (t : Nat → Rat) (i m : Nat) : List Rat := (List.range m).map (fun a => t (i + 1 + a))
theorem win_len (t : Nat → Rat) (i m : Nat) : (win t i m).length = m := by simp [win]
theorem win_last (t : Nat → Rat) (i m : Nat) : win t i (m + 1) = win t i m ++ [t (i + m + 1)] := by
  unfold win
  rw [List.range_succ, List.map_append, List.map_singleton, show i + 1 + m = i + m + 1 by omega]
theorem win_first (t : Nat → Rat) (i m : Nat) : win t i (m + 1) = t (i + 1) :: win t (i + 1) m := by
  unfold win
  rw [List.range_succ_eq_map, List.map_cons, List.map_map]
  congr 1
  exact List.map_congr_left fun a _ => by show t (i + 1 + (a + 1)) = t (i + 1 + 1 + a); congr 1; omega
theorem win_split (t : Nat → Rat) (i a b : Nat) : win t i (a + b) = win t i a ++ win t (i + a) b := by
  unfold win
  rw [List.range_add, List.map_append, List.map_map]
  congr 1
  exact List.map_congr_left fun c _ => by show t (i + 1 + (a + c)) = t (i + a + 1 + c); congr 1; omega
theorem win_const (t : Nat → Rat) (x : Rat) (i m : Nat) (h : ∀ a, a < m → t (i + 1 + a) = x) : win t i m = List.replicate m x := by
  unfold win
  refine List.eq_replicate_iff.mpr ⟨by simp, fun b hb => ?_⟩
  obtain ⟨a, ha, rfl⟩ := List.mem_map.mp hb
  exact h a (List.mem_range.mp ha)
/-- M. Marsden's identity, for a symmetric function that is affine in each place -/
theorem mars {B : List Rat → Rat} (hB : SymAff B) {t : Nat → Rat} (mono : ∀ a b, a ≤ b → t a ≤ t b) {j : Nat} (hj : t j < t (j + 1)) (x : Rat) :
    ∀ (m b : Nat) (rest : List Rat), b + m = j → sm (m + 1) (fun r => B (win t (b + r) m ++ rest) * N t m (b + r) j x) = B (List.replicate m x ++ rest) := by
  intro m
  induction m with
  | zero =>
    intro b rest hb
    show 0 + B (win t (b + 0) 0 ++ rest) * (if b + 0 = j then (1 : Rat) else 0) = B rest
    rw [if_pos (by omega)]
    show 0 + B rest * 1 = B rest
    grind
  | succ m ih =>
    intro b rest hb
    let A : Nat → Rat := fun r => B (win t (b + r) (m + 1) ++ rest) * ((x - t (b + r)) / (t (b + r + m + 1) - t (b + r)) * N t m (b + r) j x)
    let C : Nat → Rat := fun r => B (win t (b + r) (m + 1) ++ rest) * ((t (b + r + m + 2) - x) / (t (b + r + m + 2) - t (b + r + 1)) * N t m (b + r + 1) j x)
    have e1 : sm (m + 1 + 1) (fun r => B (win t (b + r) (m + 1) ++ rest) * N t (m + 1) (b + r) j x) = sm (m + 1 + 1) (fun r => A r + C r) := sm_congr fun r _ => by
      rw [N_succ]
      show _ = B (win t (b + r) (m + 1) ++ rest) * _ + B (win t (b + r) (m + 1) ++ rest) * _
      grind
    have zA : A 0 = 0 := by
      show B (win t (b + 0) (m + 1) ++ rest) * (_ * N t m (b + 0) j x) = 0
      rw [N_out t x j m (b + 0) (by omega)]; grind
    have zC : C (m + 1) = 0 := by
      show B (win t (b + (m + 1)) (m + 1) ++ rest) * (_ * N t m (b + (m + 1) + 1) j x) = 0
      rw [N_out t x j m (b + (m + 1) + 1) (by omega)]; grind
    have e2 : sm (m + 1 + 1) (fun r => A r + C r) = sm (m + 1) (fun s => A (s + 1) + C s) := by
      rw [sm_add, sm_add, sm_head (m + 1) A]
      show A 0 + sm (m + 1) (fun i => A (i + 1)) + (sm (m + 1) C + C (m + 1)) = _
      rw [zA, zC]; grind
    have e3 : sm (m + 1) (fun s => A (s + 1) + C s) = sm (m + 1) (fun s => B (win t (b + 1 + s) m ++ (x :: rest)) * N t m (b + 1 + s) j x) := sm_congr fun s hs => by
      show B (win t (b + (s + 1)) (m + 1) ++ rest) * ((x - t (b + (s + 1))) / (t (b + (s + 1) + m + 1) - t (b + (s + 1))) * N t m (b + (s + 1)) j x) + B (win t (b + s) (m + 1) ++ rest) * ((t (b + s + m + 2) - x) / (t (b + s + m + 2) - t (b + s + 1)) * N t m (b + s + 1) j x) = _
      have i1 : b + (s + 1) = b + s + 1 := by omega
      have i2 : b + 1 + s = b + s + 1 := by omega
      have i3 : b + s + 1 + m + 1 = b + s + m + 2 := by omega
      rw [i1, i2, i3]
      have lt : t (b + s + 1) < t (b + s + m + 2) := by
        have h1 := mono (b + s + 1) j (by omega)
        have h2 := mono (j + 1) (b + s + m + 2) (by omega)
        grind
      have p1 : B (win t (b + s + 1) (m + 1) ++ rest) = B (t (b + s + m + 2) :: (win t (b + s + 1) m ++ rest)) := by
        rw [win_last, i3, List.append_assoc]
        exact hB.perm List.perm_middle
      have p2 : B (win t (b + s) (m + 1) ++ rest) = B (t (b + s + 1) :: (win t (b + s + 1) m ++ rest)) := by
        rw [win_first]; rfl
      have p3 : B (win t (b + s + 1) m ++ x :: rest) = B (x :: (win t (b + s + 1) m ++ rest)) := hB.perm List.perm_middle
      have hx : x = (x - t (b + s + 1)) / (t (b + s + m + 2) - t (b + s + 1)) * t (b + s + m + 2) + (1 - (x - t (b + s + 1)) / (t (b + s + m + 2) - t (b + s + 1))) * t (b + s + 1) := by grind
      have p4 := hB.aff ((x - t (b + s + 1)) / (t (b + s + m + 2) - t (b + s + 1))) (t (b + s + m + 2)) (t (b + s + 1)) (win t (b + s + 1) m ++ rest)
      rw [← hx] at p4
      rw [p1, p2, p3, p4]
      have q : (t (b + s + m + 2) - x) / (t (b + s + m + 2) - t (b + s + 1)) = 1 - (x - t (b + s + 1)) / (t (b + s + m + 2) - t (b + s + 1)) := by grind
      rw [q]; grind
    rw [e1, e2, e3, ih (b + 1) (x :: rest) (by omega), List.replicate_succ]
    exact hB.perm List.perm_middle
theorem marsP {t : Nat → Rat} (mono : ∀ a b, a ≤ b → t a ≤ t b) {j b d : Nat} (hj : t j < t (j + 1)) (hb : b + d = j) (p : Nat → Rat) (x : Rat) :
    sm (d + 1) (fun r => bl d p (win t (b + r) d) * N t d (b + r) j x) = pe d p x := by
  have h := mars (bl_symAff d p) mono hj x d b [] hb
  simp only [List.append_nil] at h
  rw [h, bl_diag]
/-- the pieces of basis functions over one interval are independent -/
theorem N_indep {t : Nat → Rat} (mono : ∀ a b, a ≤ b → t a ≤ t b) {j b d : Nat} (hj : t j < t (j + 1)) (hb : b + d = j) (a : Nat → Rat)
    (h : ∀ x, sm (d + 1) (fun r => a r * N t d (b + r) j x) = 0) : ∀ r, r ≤ d → a r = 0 := by
  obtain ⟨β, ⟨k, hk, hbk⟩, hz⟩ := depend (d + 1) (fun k r => if k ≤ d then es (win t (b + r) d) k / ch d k else a r)
  have hz' : ∀ r, r ≤ d → bl d β (win t (b + r) d) + β (d + 1) * a r = 0 := by
    intro r hr
    have h1 := hz r (by omega)
    have h2 : sm (d + 1) (fun k => β k * (if k ≤ d then es (win t (b + r) d) k / ch d k else a r)) + β (d + 1) * (if d + 1 ≤ d then es (win t (b + r) d) (d + 1) / ch d (d + 1) else a r) = 0 := h1
    rw [if_neg (by omega)] at h2
    rw [← h2]
    congr 1
    exact sm_congr fun i hi => by rw [if_pos (by omega)]
  have pz : ∀ x, pe d β x = 0 := by
    intro x
    rw [← marsP mono hj hb β x]
    have e : sm (d + 1) (fun r => bl d β (win t (b + r) d) * N t d (b + r) j x) = sm (d + 1) (fun r => (- β (d + 1)) * (a r * N t d (b + r) j x)) := sm_congr fun r hr => by
      have := hz' r (by omega)
      grind
    rw [e, sm_mul, h x]; grind
  have bz := pe_zero_all d β pz
  have hk2 : k = d + 1 := by
    by_cases e : k ≤ d
    · exact absurd (bz k e) hbk
    · omega
  subst hk2
  intro r hr
  have h1 := hz' r hr
  have h2 : bl d β (win t (b + r) d) = 0 := sm_zero fun i hi => by
    rw [bz i (by omega)]; grind
  rw [h2] at h1
  grind
/-- the coefficients are blossoms -/
theorem dual {t : Nat → Rat} (mono : ∀ a b, a ≤ b → t a ≤ t b) {j b d : Nat} (hj : t j < t (j + 1)) (hb : b + d = j) (p c : Nat → Rat)
    (hp : ∀ x, pe d p x = sm (d + 1) (fun r => c (b + r) * N t d (b + r) j x)) : ∀ r, r ≤ d → bl d p (win t (b + r) d) = c (b + r) := by
  intro r hr
  have h := N_indep mono hj hb (fun r => bl d p (win t (b + r) d) - c (b + r)) (fun x => by
    have e : sm (d + 1) (fun r => (bl d p (win t (b + r) d) - c (b + r)) * N t d (b + r) j x) = sm (d + 1) (fun r => bl d p (win t (b + r) d) * N t d (b + r) j x - c (b + r) * N t d (b + r) j x) := sm_congr fun r _ => by grind
    rw [e, sm_sub, marsP mono hj hb, hp x]; grind) r hr
  grind
theorem range_rev (f : Nat → Rat) : ∀ s, ((List.range s).map (fun a => f (s - 1 - a))).Perm ((List.range s).map f)
  | 0 => List.Perm.refl _
  | s + 1 => by
    rw [List.range_succ_eq_map, List.map_cons, List.map_map, ← List.range_succ_eq_map, List.range_succ, List.map_append, List.map_singleton]
    have e : (List.range s).map ((fun a => f (s + 1 - 1 - a)) ∘ Nat.succ) = (List.range s).map (fun a => f (s - 1 - a)) := List.map_congr_left fun a _ => by
      show f (s + 1 - 1 - (a + 1)) = f (s - 1 - a)
      congr 1; omega
    rw [e]
    exact ((range_rev f s).cons _).trans (List.perm_append_singleton _ _).symm
/-- two neighbouring pieces of a spline agree at places among which the knot between them stands as often as in the knots -/
theorem cross {t : Nat → Rat} (mono : ∀ a b, a ≤ b → t a ≤ t b) {d j k m : Nat} {τ : Rat} (hdj : d ≤ j) (hj : t j < t (j + 1)) (hk : k = j + m) (hm : m ≤ d) (hkk : t k < t (k + 1))
    (hτ : ∀ a, j < a → a ≤ k → t a = τ) (hm1 : 1 ≤ m) (c p q : Nat → Rat) (hp : ∀ x, pe d p x = sm (d + 1) (fun r => c (j - d + r) * N t d (j - d + r) j x))
    (hq : ∀ x, pe d q x = sm (d + 1) (fun r => c (k - d + r) * N t d (k - d + r) k x)) (v : List Rat) (hv : v.length = d - m) :
    bl d p (v ++ List.replicate m τ) = bl d q (v ++ List.replicate m τ) := by
  have dp := dual mono hj (show j - d + d = j by omega) p c hp
  have dq := dual mono hkk (show k - d + d = k by omega) q c hq
  have key := windows (fun a => t (j - a)) (fun b => t (k + 1 + b)) (d - m) (fun us => bl d (fun i => p i - q i) (us ++ List.replicate m τ)) ((bl_symAff d _).tail _) (fun a b ha hb => by
      have h1 := mono (j - a) j (by omega)
      have h2 := hτ k (by omega) (by omega)
      have h3 := mono (j + 1) (k + 1 + b) (by omega)
      have : t (j - a) < t (k + 1 + b) := by grind
      grind) (fun s hs => by
      show bl d (fun i => p i - q i) (((List.range s).map (fun a => t (j - a)) ++ (List.range (d - m - s)).map (fun b => t (k + 1 + b))) ++ List.replicate m τ) = 0
      have pm : (((List.range s).map (fun a => t (j - a)) ++ (List.range (d - m - s)).map (fun b => t (k + 1 + b))) ++ List.replicate m τ).Perm (win t (j - s) d) := by
        have e0 : d = s + (m + (d - m - s)) := by omega
        have e : win t (j - s) d = (List.range s).map (fun a => t (j - s + 1 + a)) ++ (List.replicate m τ ++ (List.range (d - m - s)).map (fun b => t (k + 1 + b))) := by
          have e1 : win t (j - s) d = win t (j - s) (s + (m + (d - m - s))) := by rw [← e0]
          rw [e1, win_split, win_split, win_const t τ (j - s + s) m (fun a ha => hτ _ (by omega) (by omega))]
          have e2 : j - s + s + m = k := by omega
          rw [e2]; rfl
        rw [e, List.append_assoc]
        refine List.Perm.append ?_ List.perm_append_comm
        refine List.Perm.trans ?_ (range_rev (fun a => t (j - s + 1 + a)) s)
        have e3 : (List.range s).map (fun a => t (j - a)) = (List.range s).map (fun a => t (j - s + 1 + (s - 1 - a))) := List.map_congr_left fun a ha => by
          have := List.mem_range.mp ha
          congr 1; omega
        rw [e3]
      rw [bl_perm pm, bl_sub]
      have h1 := dp (d - s) (by omega)
      have h2 := dq (d - m - s) (by omega)
      rw [show j - d + (d - s) = j - s by omega] at h1
      rw [show k - d + (d - m - s) = j - s by omega] at h2
      rw [h1, h2]; grind) v hv
  have key2 : bl d (fun i => p i - q i) (v ++ List.replicate m τ) = 0 := key
  rw [bl_sub] at key2
  grind
/-- .. where derivatives of orders 0 to d - m are equal -/
theorem crossD (x : Rat) {d m : Nat} (hm : m ≤ d) (p q : Nat → Rat) (h : ∀ r, r ≤ d - m → pe (d - r) (drs r p) x = pe (d - r) (drs r q) x) (v : List Rat) (hv : v.length = d - m) :
    bl d p (v ++ List.replicate m x) = bl d q (v ++ List.replicate m x) := by
  have drs_sub : ∀ r (p q : Nat → Rat), drs r (fun i => p i - q i) = fun i => drs r p i - drs r q i := by
    intro r
    induction r with
    | zero => intro p q; rfl
    | succ r ih =>
      intro p q
      have e : dr (fun i => p i - q i) = fun i => dr p i - dr q i := by funext i; unfold dr; grind
      show drs r (dr (fun i => p i - q i)) = fun i => drs r (dr p) i - drs r (dr q) i
      rw [e, ih]
  have key := bl_flat x (d - m) d (fun i => p i - q i) (by omega) (fun r hr => by
    rw [drs_sub]
    have e : pe (d - r) (fun i => drs r p i - drs r q i) x = pe (d - r) (drs r p) x - pe (d - r) (drs r q) x := by
      unfold pe
      rw [← sm_sub]
      exact sm_congr fun i _ => by grind
    rw [e, h r hr]; grind) v hv
  rw [show d - (d - m) = m by omega, bl_sub] at key
  grind
end Bc
end
section
set_option linter.all false
namespace Bc
/-- knots and coefficients of a spline: d the degree, n how many coefficients -/
structure Spl (d n : Nat) (t : Nat → Rat) : Prop where
  mono : ∀ a b, a ≤ b → t a ≤ t b
  mult : ∀ i, i < n → t i < t (i + d + 1)
  first : t 0 = t d
  last : ∀ i, n ≤ i → t i = t n
  size : d + 1 ≤ n
theorem Spl.low {d n : Nat} {t : Nat → Rat} (S : Spl d n t) {j : Nat} (h : t j < t (j + 1)) : d ≤ j := by
  apply Classical.byContradiction
  intro hc
  have h1 := S.mono 0 j (by omega)
  have h2 := S.mono (j + 1) d (by omega)
  have h3 := S.first
  grind
theorem Spl.high {d n : Nat} {t : Nat → Rat} (S : Spl d n t) {j : Nat} (h : t j < t (j + 1)) : j < n := by
  apply Classical.byContradiction
  intro hc
  have h1 := S.last j (by omega)
  have h2 := S.last (j + 1) (by omega)
  grind
/-- the next interval that is not empty -/
theorem next_iv {t : Nat → Rat} (mono : ∀ a b, a ≤ b → t a ≤ t b) {b : Nat} (hb : t b < t (b + 1)) : ∀ (g a : Nat), b - a = g → a < b → ∃ k, a < k ∧ k ≤ b ∧ t k < t (k + 1) ∧ ∀ i, a < i → i ≤ k → t i = t k := by
  intro g
  induction g with
  | zero => intro a h1 h2; omega
  | succ g ih =>
    intro a h1 h2
    by_cases e : t (a + 1) < t (a + 2)
    · exact ⟨a + 1, by omega, by omega, e, fun i h3 h4 => by rw [show i = a + 1 by omega]⟩
    · have hne : a + 1 ≠ b := fun z => by subst z; exact e hb
      obtain ⟨k, k1, k2, k3, k4⟩ := ih (a + 1) (by omega) (by omega)
      refine ⟨k, by omega, k2, k3, fun i h3 h4 => ?_⟩
      by_cases ei : i = a + 1
      · have h5 := mono (a + 1) (a + 2) (by omega)
        have h6 := k4 (a + 2) (by omega) (by omega)
        rw [ei]
        grind
      · exact k4 i (by omega) h4
/-- along pieces that agree pairwise -/
theorem chain {t : Nat → Rat} (mono : ∀ a b, a ≤ b → t a ≤ t b) (f : Nat → Rat) {b : Nat} (hb : t b < t (b + 1)) : ∀ (g a : Nat), b - a = g → a ≤ b → t a < t (a + 1) →
    (∀ j k, a ≤ j → j < k → k ≤ b → t j < t (j + 1) → t k < t (k + 1) → (∀ i, j < i → i ≤ k → t i = t k) → f j = f k) → f a = f b := by
  intro g
  induction g using Nat.strongRecOn with
  | _ g ih =>
    intro a h1 h2 ha h
    by_cases e : a = b
    · rw [e]
    · obtain ⟨k, k1, k2, k3, k4⟩ := next_iv mono hb (b - a) a rfl (by omega)
      rw [h a k (Nat.le_refl a) k1 k2 ha k3 k4]
      exact ih (b - k) (by omega) k rfl k2 k3 fun j l h5 h6 h7 => h j l (by omega) h6 h7
/-- places among which a knot stands m times -/
theorem win_holds {t : Nat → Rat} {i d s m : Nat} {τ : Rat} (h1 : i + 1 ≤ s) (h2 : s + m ≤ i + d + 1) (h : ∀ r, s ≤ r → r < s + m → t r = τ) :
    ∃ v : List Rat, v.length = d - m ∧ m ≤ d ∧ (win t i d).Perm (v ++ List.replicate m τ) := by
  refine ⟨win t i (s - i - 1) ++ win t (s - 1 + m) (d - m - (s - i - 1)), by rw [List.length_append, win_len, win_len]; omega, by omega, ?_⟩
  have e0 : d = (s - i - 1) + (m + (d - m - (s - i - 1))) := by omega
  have e1 : win t i d = win t i ((s - i - 1) + (m + (d - m - (s - i - 1)))) := by rw [← e0]
  rw [e1, win_split, win_split, show i + (s - i - 1) = s - 1 by omega, win_const t τ (s - 1) m fun a ha => h _ (by omega) (by omega), List.append_assoc]
  exact List.Perm.append_left _ List.perm_append_comm
/-- the knots without number p -/
def less1 (t : Nat → Rat) (p : Nat) : Nat → Rat := fun i => if i < p then t i else t (i + 1)
/-- the interval of the old knots that begins where an interval of the new ones does -/
def old (p k : Nat) : Nat := if k < p then k else k + 1
section
variable {d n : Nat} {t : Nat → Rat}
theorem less1_mono (mono : ∀ a b, a ≤ b → t a ≤ t b) (p : Nat) : ∀ a b, a ≤ b → less1 t p a ≤ less1 t p b := by
  intro a b h
  unfold less1
  by_cases h1 : a < p
  · rw [if_pos h1]
    by_cases h2 : b < p
    · rw [if_pos h2]; exact mono _ _ h
    · rw [if_neg h2]; exact mono _ _ (by omega)
  · rw [if_neg h1, if_neg (by omega)]; exact mono _ _ (by omega)
theorem old_at (t : Nat → Rat) (p k : Nat) : t (old p k) = less1 t p k := by
  unfold old less1
  by_cases h : k < p
  · rw [if_pos h, if_pos h]
  · rw [if_neg h, if_neg h]
theorem old_iv {p k : Nat} (hp : t (p - 1) < t p) (hp1 : 1 ≤ p) (h : less1 t p k < less1 t p (k + 1)) : t (old p k) < t (old p k + 1) := by
  unfold less1 at h
  unfold old
  by_cases h1 : k < p
  · rw [if_pos h1]
    by_cases h2 : k + 1 < p
    · rw [if_pos h1, if_pos h2] at h; exact h
    · have : k = p - 1 := by omega
      subst this
      rw [show p - 1 + 1 = p by omega]; exact hp
  · rw [if_neg h1]
    rw [if_neg h1, if_neg (by omega)] at h
    exact h
theorem less1_spl (S : Spl d n t) {p : Nat} (hp : p < n) (hp0 : d < p) (hn : d + 2 ≤ n) : Spl d (n - 1) (less1 t p) where
  mono := less1_mono S.mono p
  mult := fun i hi => by
    unfold less1
    by_cases h1 : i < p
    · rw [if_pos h1]
      by_cases h2 : i + d + 1 < p
      · rw [if_pos h2]; exact S.mult i (by omega)
      · rw [if_neg h2]
        have a := S.mult i (by omega)
        have b := S.mono (i + d + 1) (i + d + 1 + 1) (by omega)
        grind
    · rw [if_neg h1, if_neg (by omega)]
      have a := S.mult (i + 1) (by omega)
      rw [show i + 1 + d + 1 = i + d + 1 + 1 by omega] at a
      exact a
  first := by
    unfold less1
    rw [if_pos (by omega), if_pos (by omega)]; exact S.first
  last := fun i hi => by
    unfold less1
    rw [if_neg (show ¬ n - 1 < p by omega), if_neg (show ¬ i < p by omega), S.last (i + 1) (by omega), S.last (n - 1 + 1) (by omega)]
  size := by omega
/-- p the first place of x, its last one l; the pieces P are those of c; derivatives of both sides of x are equal up to the order that is due; then pieces agree along the knots of a window of the new knots -/
structure Rem (d n : Nat) (t c : Nat → Rat) (P : Nat → Nat → Rat) (p l : Nat) : Prop where
  S : Spl d n t
  pc : ∀ j, t j < t (j + 1) → ∀ x, pe d (P j) x = sm (d + 1) (fun r => c (j - d + r) * N t d (j - d + r) j x)
  p1 : 1 ≤ p
  fp : t (p - 1) < t p
  pl : p ≤ l
  eq : ∀ i, p ≤ i → i ≤ l → t i = t p
  ll : t l < t (l + 1)
  flat : ∀ r, r ≤ d - (l - p) → pe (d - r) (drs r (P (p - 1))) (t p) = pe (d - r) (drs r (P l)) (t p)
variable {c : Nat → Rat} {P : Nat → Nat → Rat} {p l : Nat}
/-- the step over one knot -/
theorem Rem.step (M : Rem d n t c P p l) {j k : Nat} (hjk : j < k) (hj : t j < t (j + 1)) (hk : t k < t (k + 1)) (heq : ∀ i, j < i → i ≤ k → t i = t k) {U v : List Rat}
    (hd : (if k = l then k - j - 1 else k - j) ≤ d) (hv : v.length = d - (if k = l then k - j - 1 else k - j)) (hU : U.Perm (v ++ List.replicate (if k = l then k - j - 1 else k - j) (t k))) : bl d (P j) U = bl d (P k) U := by
  rw [bl_perm hU, bl_perm hU]
  by_cases e : k = l
  · subst e
    have ej : j = p - 1 := by
      apply Classical.byContradiction
      intro hc
      by_cases h1 : j < p - 1
      · have h2 := heq (p - 1) (by omega) (by have := M.pl; omega)
        have h3 := M.eq k M.pl (Nat.le_refl k)
        have h4 := M.fp
        grind
      · have h2 := M.eq j (by omega) (by omega)
        have h3 := M.eq (j + 1) (by omega) (by omega)
        grind
    subst ej
    have m1 := M.p1
    have m2 := M.pl
    rw [if_pos rfl] at hv hd ⊢
    have e2 : k - (p - 1) - 1 = k - p := by omega
    rw [e2] at hv hd ⊢
    rw [M.eq k M.pl (Nat.le_refl k)]
    exact crossD (t p) hd _ _ M.flat v hv
  · rw [if_neg e] at hv hd ⊢
    exact cross M.S.mono (M.S.low hj) hj (show k = j + (k - j) by omega) hd hk (fun a h1 h2 => heq a h1 h2) (by omega) c _ _ (M.pc j hj) (M.pc k hk) v hv
theorem Rem.lp (M : Rem d n t c P p l) {j k : Nat} (hj : t j < t (j + 1)) (hk : t k < t (k + 1)) (heq : ∀ i, j < i → i ≤ k → t i = t k) (hjk : j < k) : (k = l ∧ j = p - 1) ∨ (k < p) ∨ (p ≤ j ∧ l ≤ j) := by
  have m1 := M.p1
  have m2 := M.pl
  by_cases h1 : k < p
  · exact .inr (.inl h1)
  · by_cases h2 : l ≤ j
    · exact .inr (.inr ⟨by omega, h2⟩)
    · left
      have hj2 : j = p - 1 := by
        apply Classical.byContradiction
        intro hc
        by_cases h3 : j < p - 1
        · have h4 := heq (p - 1) (by omega) (by omega)
          have h5 := heq p (by omega) (by omega)
          have h6 := M.fp
          grind
        · have h4 := M.eq j (by omega) (by omega)
          have h5 := M.eq (j + 1) (by omega) (by omega)
          grind
      refine ⟨?_, hj2⟩
      apply Classical.byContradiction
      intro hc
      by_cases h3 : k < l
      · have h4 := M.eq k (by omega) (by omega)
        have h5 := M.eq (k + 1) (by omega) (by omega)
        grind
      · have h4 := heq l (by omega) (by omega)
        have h5 := heq (l + 1) (by omega) (by omega)
        have h6 := M.ll
        grind
/-- a window of the new knots over which two intervals lie -/
theorem Rem.wins (M : Rem d n t c P p l) {i a b : Nat} (ha : less1 t p a < less1 t p (a + 1)) (hb : less1 t p b < less1 t p (b + 1)) (hab : a ≤ b) (h1 : i ≤ a) (h2 : b ≤ i + d) :
    bl d (P (old p a)) (win (less1 t p) i d) = bl d (P (old p b)) (win (less1 t p) i d) := by
  have oa := old_iv M.fp M.p1 ha
  have ob := old_iv M.fp M.p1 hb
  have m1 := M.p1
  have m2 := M.pl
  refine chain M.S.mono (fun j => bl d (P j) (win (less1 t p) i d)) ob (old p b - old p a) (old p a) rfl (by unfold old; split <;> split <;> omega) oa fun j k h3 h4 h5 hj hk heq => ?_
  have cs := M.lp hj hk heq h4
  have hold : ∀ a, old p a = if a < p then a else a + 1 := fun _ => rfl
  rw [hold] at h3 h5
  have core : ∃ v : List Rat, v.length = d - (if k = l then k - j - 1 else k - j) ∧ (if k = l then k - j - 1 else k - j) ≤ d ∧ (win (less1 t p) i d).Perm (v ++ List.replicate (if k = l then k - j - 1 else k - j) (t k)) := by
    rcases cs with ⟨e1, e2⟩ | h6 | ⟨h6, h7⟩
    · rw [if_pos e1]
      refine win_holds (s := p) ?_ ?_ fun r r1 r2 => ?_
      · split at h3 <;> omega
      · split at h5 <;> omega
      · unfold less1
        rw [if_neg (by omega), M.eq (r + 1) (by omega) (by omega), e1, M.eq l M.pl (Nat.le_refl l)]
    · rw [if_neg (by omega)]
      refine win_holds (s := j + 1) ?_ ?_ fun r r1 r2 => ?_
      · split at h3 <;> omega
      · split at h5 <;> omega
      · unfold less1
        rw [if_pos (by omega)]; exact heq r (by omega) (by omega)
    · rw [if_neg (by omega)]
      refine win_holds (s := j) ?_ ?_ fun r r1 r2 => ?_
      · split at h3 <;> omega
      · split at h5 <;> omega
      · unfold less1
        rw [if_neg (by omega)]; exact heq (r + 1) (by omega) (by omega)
  obtain ⟨v, v1, v2, v3⟩ := core
  exact M.step h4 hj hk heq v2 v1 v3
/-- the new coefficients make the same function -/
theorem Rem.same (M : Rem d n t c P p l) {c' : Nat → Rat} {n' : Nat} (S' : Spl d n' (less1 t p))
    (hc : ∀ i, i < n' → ∃ q, i ≤ q ∧ q ≤ i + d ∧ less1 t p q < less1 t p (q + 1) ∧ c' i = bl d (P (old p q)) (win (less1 t p) i d)) {k : Nat} (hk : less1 t p k < less1 t p (k + 1)) (x : Rat) :
    sm (d + 1) (fun r => c' (k - d + r) * N (less1 t p) d (k - d + r) k x) = pe d (P (old p k)) x := by
  have hdk := S'.low hk
  have hkn := S'.high hk
  rw [← marsP S'.mono hk (show k - d + d = k by omega) (P (old p k)) x]
  refine sm_congr fun r hr => ?_
  obtain ⟨q, q1, q2, q3, q4⟩ := hc (k - d + r) (by omega)
  rw [q4]
  congr 1
  by_cases h : q ≤ k
  · exact M.wins q3 hk h q1 (by omega)
  · exact (M.wins hk q3 (by omega) (by omega) q2).symm
/-- at a place of an interval of the new knots the old piece is the same, too -/
theorem Rem.piece (M : Rem d n t c P p l) {k j : Nat} (hk : less1 t p k < less1 t p (k + 1)) {x : Rat} (h1 : less1 t p k ≤ x) (h2 : x < less1 t p (k + 1)) (hj1 : t j ≤ x) (hj2 : x < t (j + 1)) :
    pe d (P j) x = pe d (P (old p k)) x := by
  have hj : t j < t (j + 1) := by grind
  have ok := old_iv M.fp M.p1 hk
  have oe := old_at t p k
  have m1 := M.p1
  have m2 := M.pl
  have hle : old p k ≤ j := by
    apply Classical.byContradiction
    intro hc
    have := M.S.mono (j + 1) (old p k) (by omega)
    grind
  by_cases e : old p k = j
  · rw [e]
  · rw [← bl_diag, ← bl_diag]
    refine (chain M.S.mono (fun j => bl d (P j) (List.replicate d x)) hj (j - old p k) (old p k) rfl hle ok fun a b h3 h4 h5 ha hb heq => ?_).symm
    have cs := M.lp ha hb heq h4
    have hold : old p k = if k < p then k else k + 1 := rfl
    have htk : less1 t p (k + 1) = if k + 1 < p then t (k + 1) else t (k + 1 + 1) := rfl
    -- a knot strictly within the new interval: only x, alone
    have key : b = l ∧ a = p - 1 ∧ l = p := by
      have hb1 : t b ≤ x := by have := M.S.mono b j (by omega); grind
      by_cases hkp : k < p
      · rw [if_pos hkp] at hold
        by_cases hk1 : k + 1 < p
        · rw [if_pos hk1] at htk
          have := M.S.mono (k + 1) b (by omega)
          grind
        · rw [if_neg hk1] at htk
          have hbk : b < k + 1 + 1 := by
            apply Classical.byContradiction
            intro hc
            have := M.S.mono (k + 1 + 1) b (by omega)
            grind
          rcases cs with ⟨e1, e2⟩ | h6 | ⟨h6, h7⟩
          · exact ⟨e1, e2, by omega⟩
          · omega
          · omega
      · rw [if_neg hkp] at hold
        rw [if_neg (by omega)] at htk
        have := M.S.mono (k + 1 + 1) b (by omega)
        grind
    obtain ⟨e1, e2, e3⟩ := key
    refine M.step h4 ha hb heq (v := List.replicate d x) ?_ ?_ ?_
    · rw [if_pos e1]; omega
    · rw [if_pos e1, List.length_replicate]; omega
    · rw [if_pos e1, show b - a - 1 = 0 by omega]
      simp
/-- the last coefficient stays -/
theorem Rem.last (M : Rem d n t c P p l) (hpn : p < n) {c' : Nat → Rat} (hn : d + 2 ≤ n) (S' : Spl d (n - 1) (less1 t p))
    (hc : ∀ i, i < n - 1 → ∃ q, i ≤ q ∧ q ≤ i + d ∧ less1 t p q < less1 t p (q + 1) ∧ c' i = bl d (P (old p q)) (win (less1 t p) i d)) : c' (n - 2) = c (n - 1) := by
  obtain ⟨q, q1, q2, q3, q4⟩ := hc (n - 2) (by omega)
  have hq : q = n - 2 := by have := S'.high q3; omega
  subst hq
  have m1 := M.p1
  have m2 := M.pl
  have hn1 : t (n - 1) < t (n - 1 + 1) := by
    have a := M.S.mult (n - 1) (by omega)
    have b := M.S.last (n - 1 + d + 1) (by omega)
    rw [show n - 1 + 1 = n by omega]; grind
  have dl := dual M.S.mono hn1 (show n - 1 - d + d = n - 1 by omega) (P (n - 1)) c (M.pc _ hn1) d (Nat.le_refl d)
  rw [show n - 1 - d + d = n - 1 by omega] at dl
  have w1 : win t (n - 1) d = List.replicate d (t n) := win_const t (t n) _ _ fun a ha => M.S.last _ (by omega)
  have w2 : win (less1 t p) (n - 2) d = List.replicate d (t n) := win_const _ (t n) _ _ fun a ha => by
    unfold less1
    rw [if_neg (by omega)]
    exact M.S.last _ (by omega)
  rw [q4, ← dl, w1, w2]
  have ok := old_iv M.fp M.p1 q3
  have hold : old p (n - 2) = if n - 2 < p then n - 2 else n - 2 + 1 := rfl
  by_cases h : n - 2 < p
  · rw [if_pos h] at hold
    rw [hold]
    have hp : p = n - 1 := by omega
    have hl : l = n - 1 := by
      apply Classical.byContradiction
      intro hc
      have a := M.eq (p + 1) (by omega) (by omega)
      rw [hp] at a
      grind
    rw [hold] at ok
    refine M.step (j := n - 2) (k := n - 1) (by omega) ok hn1 (fun i h1 h2 => by rw [show i = n - 1 by omega]) (v := List.replicate d (t n)) ?_ ?_ ?_
    · rw [if_pos (by omega)]; omega
    · rw [if_pos (by omega), List.length_replicate]; omega
    · rw [if_pos (by omega), show n - 1 - (n - 2) - 1 = 0 by omega]
      simp
  · rw [if_neg h] at hold
    rw [hold, show n - 2 + 1 = n - 1 by omega]
end
end Bc
end
section
set_option linter.all false
namespace Bc
theorem mk_parts (n d : Int) (hd : 0 < d) : ((n : Rat) / (d : Rat)).num = n / ((Nat.gcd n.natAbs d.natAbs : Nat) : Int) ∧ (((n : Rat) / (d : Rat)).den : Int) = d / ((Nat.gcd n.natAbs d.natAbs : Nat) : Int) := by
  obtain ⟨m, rfl⟩ : ∃ m : Nat, d = (m : Int) := ⟨d.toNat, by omega⟩
  have hm : m ≠ 0 := by omega
  rw [← Rat.divInt_eq_div, Rat.divInt_ofNat, Rat.mkRat_def, dif_neg hm, Rat.normalize_eq]
  refine ⟨rfl, ?_⟩
  show ((m / n.natAbs.gcd m : Nat) : Int) = _
  rw [Int.natAbs_natCast]
  exact Int.natCast_ediv _ _
theorem q_frac (a : Rat) : a = (a.num : Rat) / ((a.den : Int) : Rat) := by
  rw [← Rat.divInt_eq_div, Rat.num_divInt_den]
theorem den_ne (a : Rat) : (((a.den : Nat) : Int) : Rat) ≠ 0 := by
  have h := a.den_pos
  intro e
  have : ((a.den : Nat) : Int) = 0 := by exact_mod_cast e
  omega
theorem q_add (a b : Rat) : ((a.num * (b.den : Int) + b.num * (a.den : Int) : Int) : Rat) / (((a.den : Int) * (b.den : Int) : Int) : Rat) = a + b := by
  have ha := q_frac a
  have hb := q_frac b
  have da := den_ne a
  have db := den_ne b
  rw [Rat.intCast_add, Rat.intCast_mul, Rat.intCast_mul, Rat.intCast_mul]
  generalize (a.num : Rat) = x at *
  generalize (b.num : Rat) = y at *
  generalize ((a.den : Int) : Rat) = u at *
  generalize ((b.den : Int) : Rat) = v at *
  rw [ha, hb]; grind
theorem q_sub (a b : Rat) : ((a.num * (b.den : Int) - b.num * (a.den : Int) : Int) : Rat) / (((a.den : Int) * (b.den : Int) : Int) : Rat) = a - b := by
  have ha := q_frac a
  have hb := q_frac b
  have da := den_ne a
  have db := den_ne b
  rw [Rat.intCast_sub, Rat.intCast_mul, Rat.intCast_mul, Rat.intCast_mul]
  generalize (a.num : Rat) = x at *
  generalize (b.num : Rat) = y at *
  generalize ((a.den : Int) : Rat) = u at *
  generalize ((b.den : Int) : Rat) = v at *
  rw [ha, hb]; grind
theorem q_mul (a b : Rat) : ((a.num * b.num : Int) : Rat) / (((a.den : Int) * (b.den : Int) : Int) : Rat) = a * b := by
  have ha := q_frac a
  have hb := q_frac b
  have da := den_ne a
  have db := den_ne b
  rw [Rat.intCast_mul, Rat.intCast_mul]
  generalize (a.num : Rat) = x at *
  generalize (b.num : Rat) = y at *
  generalize ((a.den : Int) : Rat) = u at *
  generalize ((b.den : Int) : Rat) = v at *
  rw [ha, hb]; grind
theorem q_div (a b : Rat) (h : b ≠ 0) : ((a.num * (b.den : Int) : Int) : Rat) / (((a.den : Int) * b.num : Int) : Rat) = a / b := by
  have ha := q_frac a
  have hb := q_frac b
  have da := den_ne a
  have db := den_ne b
  rw [Rat.intCast_mul, Rat.intCast_mul]
  generalize (a.num : Rat) = x at *
  generalize (b.num : Rat) = y at *
  generalize ((a.den : Int) : Rat) = u at *
  generalize ((b.den : Int) : Rat) = v at *
  have hy : y ≠ 0 := by intro e; apply h; rw [hb, e]; grind
  rw [ha, hb]; grind
theorem num_pos {a : Rat} (h : 0 < a) : 0 < a.num := by
  have := (Rat.lt_iff 0 a).mp h
  simpa using this
/-- small enough for the program's and the law's ratios -/
def Sm (q : Rat) : Prop := q.den < 2 ^ 2400 ∧ q.num.natAbs < 2 ^ 100000
/-- q is an integer through D, and this integer is below 2 ^ k -/
def Lat (D k : Nat) (q : Rat) : Prop := ∃ n : Int, q * (D : Rat) = (n : Rat) ∧ n.natAbs < 2 ^ k
theorem natc_ne {D : Nat} (h : 0 < D) : (D : Rat) ≠ 0 := by
  intro e
  have : D = 0 := by exact_mod_cast e
  omega
theorem Lat.plus {D k l : Nat} {a b : Rat} (ha : Lat D k a) (hb : Lat D l b) : Lat D (max k l + 1) (a + b) := by
  obtain ⟨n, e1, h1⟩ := ha
  obtain ⟨m, e2, h2⟩ := hb
  refine ⟨n + m, by rw [Rat.intCast_add]; grind, ?_⟩
  have p1 : 2 ^ k ≤ 2 ^ max k l := Nat.pow_le_pow_right (by decide) (Nat.le_max_left k l)
  have p2 : 2 ^ l ≤ 2 ^ max k l := Nat.pow_le_pow_right (by decide) (Nat.le_max_right k l)
  have p3 : 2 ^ (max k l + 1) = 2 * 2 ^ max k l := by rw [Nat.pow_succ]; omega
  omega
theorem Lat.minus {D k l : Nat} {a b : Rat} (ha : Lat D k a) (hb : Lat D l b) : Lat D (max k l + 1) (a - b) := by
  obtain ⟨n, e1, h1⟩ := ha
  obtain ⟨m, e2, h2⟩ := hb
  refine ⟨n - m, by rw [Rat.intCast_sub]; grind, ?_⟩
  have p1 : 2 ^ k ≤ 2 ^ max k l := Nat.pow_le_pow_right (by decide) (Nat.le_max_left k l)
  have p2 : 2 ^ l ≤ 2 ^ max k l := Nat.pow_le_pow_right (by decide) (Nat.le_max_right k l)
  have p3 : 2 ^ (max k l + 1) = 2 * 2 ^ max k l := by rw [Nat.pow_succ]; omega
  omega
theorem Lat.times {D E k l : Nat} {a b : Rat} (ha : Lat D k a) (hb : Lat E l b) : Lat (D * E) (k + l) (a * b) := by
  obtain ⟨n, e1, h1⟩ := ha
  obtain ⟨m, e2, h2⟩ := hb
  refine ⟨n * m, by rw [Rat.intCast_mul, Rat.natCast_mul]; grind, ?_⟩
  rw [Int.natAbs_mul, Nat.pow_add]
  exact Nat.mul_lt_mul'' h1 h2
theorem Lat.mono {D k l : Nat} {a : Rat} (h : Lat D k a) (hk : k ≤ l) : Lat D l a := by
  obtain ⟨n, e1, h1⟩ := h
  exact ⟨n, e1, Nat.lt_of_lt_of_le h1 (Nat.pow_le_pow_right (by decide) hk)⟩
theorem Lat.up {D E k l : Nat} {a : Rat} (h : Lat D k a) (hE : E < 2 ^ l) : Lat (D * E) (k + l) a := by
  obtain ⟨n, e1, h1⟩ := h
  refine ⟨n * (E : Int), by rw [Rat.intCast_mul, Rat.natCast_mul, Rat.intCast_natCast]; grind, ?_⟩
  rw [Int.natAbs_mul, Nat.pow_add, Int.natAbs_natCast]
  exact Nat.mul_lt_mul'' h1 hE
theorem Lat.zero (D k : Nat) : Lat D k 0 := ⟨0, by grind, Nat.two_pow_pos k⟩
theorem Lat.neg {D k : Nat} {a : Rat} (h : Lat D k a) : Lat D k (-a) := by
  obtain ⟨n, e1, h1⟩ := h
  exact ⟨-n, by rw [Rat.intCast_neg]; grind, by rw [Int.natAbs_neg]; exact h1⟩
theorem Lat.den {D k : Nat} {a : Rat} (h : Lat D k a) (hD : 0 < D) : a.den ∣ D ∧ a.num.natAbs < 2 ^ k := by
  obtain ⟨n, e1, h1⟩ := h
  have e2 : a.num * (D : Int) = n * (a.den : Int) := by
    have h2 := q_frac a
    have h3 := den_ne a
    have : ((a.num * (D : Int) : Int) : Rat) = ((n * (a.den : Int) : Int) : Rat) := by
      rw [Rat.intCast_mul, Rat.intCast_mul, Rat.intCast_natCast D, ← e1]
      generalize ((a.den : Int) : Rat) = v at *
      generalize (a.num : Rat) = x at *
      rw [h2]; grind
    exact_mod_cast this
  have e3 : a.num.natAbs * D = n.natAbs * a.den := by
    have := congrArg Int.natAbs e2
    rw [Int.natAbs_mul, Int.natAbs_mul, Int.natAbs_natCast, Int.natAbs_natCast] at this
    exact this
  have c : a.den ∣ D := by
    have : a.den ∣ a.num.natAbs * D := ⟨n.natAbs, by rw [e3, Nat.mul_comm]⟩
    exact (Nat.Coprime.symm a.reduced).dvd_of_dvd_mul_left this
  refine ⟨c, ?_⟩
  have : a.num.natAbs ≤ n.natAbs := by
    have hd := Nat.le_of_dvd hD c
    apply Classical.byContradiction
    intro hc
    have h4 : n.natAbs + 1 ≤ a.num.natAbs := by omega
    have h5 : (n.natAbs + 1) * D ≤ a.num.natAbs * D := Nat.mul_le_mul_right _ h4
    have h6 : n.natAbs * a.den ≤ n.natAbs * D := Nat.mul_le_mul_left _ hd
    rw [Nat.add_mul] at h5
    omega
  omega
theorem Lat.sm {D k : Nat} {a : Rat} (h : Lat D k a) (hD : 0 < D) (hD2 : D < 2 ^ 2400) (hk : k ≤ 100000) : Sm a := by
  obtain ⟨c, h2⟩ := h.den hD
  exact ⟨Nat.lt_of_le_of_lt (Nat.le_of_dvd hD c) hD2, Nat.lt_of_lt_of_le h2 (Nat.pow_le_pow_right (by decide) hk)⟩
theorem Lat.of_int (z : Int) {k : Nat} (h : z.natAbs < 2 ^ k) : Lat 1 k (z : Rat) := ⟨z, by grind, h⟩
end Bc
end
section
set_option Elab.async false
set_option linter.all false
set_option maxRecDepth 100000
set_option maxHeartbeats 0
namespace Bc
open PySem PySem.Spec PyProof.Rows L2
def topS (i : Nat) : Stmt := PySem.Challenge.pw_blendcurves_k32_whole_smooth_joints.main.body.getD i (.Pass ⟨0, 0, 0, 0⟩)
abbrev s_is_int : Stmt := topS 10
abbrev s_is_from : Stmt := topS 11
abbrev s_is_ratio : Stmt := topS 12
abbrev s_made : Stmt := topS 13
abbrev s_plus : Stmt := topS 14
abbrev s_less : Stmt := topS 15
abbrev s_times : Stmt := topS 16
abbrev s_over : Stmt := topS 17
abbrev s_negative : Stmt := topS 18
abbrev s_is_below : Stmt := topS 19
abbrev s_between : Stmt := topS 20
abbrev s_are_ratios : Stmt := topS 21
abbrev s_trimmed : Stmt := topS 23
abbrev s_at : Stmt := topS 24
abbrev s_p_plus : Stmt := topS 25
abbrev s_p_scaled : Stmt := topS 26
abbrev s_p_times : Stmt := topS 27
abbrev s_p_slope : Stmt := topS 28
abbrev s_choose : Stmt := topS 30
abbrev s_symmetric : Stmt := topS 31
abbrev s_blossom_of : Stmt := topS 32
abbrev s_faults_of : Stmt := topS 36
abbrev s_basis_poly : Stmt := topS 37
abbrev s_need_spline : Stmt := topS 39
abbrev s_is_inner : Stmt := topS 40
abbrev s_need_inner : Stmt := topS 41
abbrev s_span_of : Stmt := topS 42
abbrev s_pieces_of : Stmt := topS 43
abbrev s_spline_pieces : Stmt := topS 44
abbrev s_poly_over : Stmt := topS 45
abbrev s_row_from : Stmt := topS 46
abbrev s_with_knot : Stmt := topS 48
abbrev s_inserted : Stmt := topS 49
abbrev s_order_at : Stmt := topS 50
abbrev s_smoothness_of : Stmt := topS 51
abbrev s_smoothness : Stmt := topS 52
abbrev s_removed : Stmt := topS 53
abbrev s_l_taken : Stmt := topS 55
abbrev s_l_pick : Stmt := topS 56
abbrev s_l_alike : Stmt := topS 57
abbrev s_l_made : Stmt := topS 58
abbrev s_l_plus : Stmt := topS 59
abbrev s_l_minus : Stmt := topS 60
abbrev s_l_times : Stmt := topS 61
abbrev s_l_over : Stmt := topS 62
abbrev s_l_below : Stmt := topS 63
abbrev s_l_sum : Stmt := topS 64
abbrev s_l_draw : Stmt := topS 65
abbrev s_l_at : Stmt := topS 66
abbrev s_l_p_slope : Stmt := topS 67
abbrev s_l_slopes : Stmt := topS 68
abbrev s_l_middle : Stmt := topS 69
abbrev s_l_once : Stmt := topS 70
abbrev s_l_sorted : Stmt := topS 71
abbrev s_l_basis : Stmt := topS 72
abbrev s_l_spline : Stmt := topS 73
abbrev s_l_spline_at : Stmt := topS 74
abbrev s_l_within : Stmt := topS 75
abbrev s_l_same : Stmt := topS 76
abbrev s_l_fits_spline : Stmt := topS 77
abbrev s_law : Stmt := topS 78
abbrev FnP (K : PySem.W.Frag) (x : Str) (st : Stmt) (f : Addr) (fd : FuncData) : Prop := FunD K x x (defArgs st) (defBody st) (defScope st) [] [] f fd
def d_is_int : He.DefD := ⟨("is_int", none), "is_int", "is_int", defArgs s_is_int, defBody s_is_int, defScope s_is_int, [], []⟩
def d_is_from : He.DefD := ⟨("is_from", none), "is_from", "is_from", defArgs s_is_from, defBody s_is_from, defScope s_is_from, [], []⟩
def d_is_ratio : He.DefD := ⟨("is_ratio", none), "is_ratio", "is_ratio", defArgs s_is_ratio, defBody s_is_ratio, defScope s_is_ratio, [], []⟩
def d_made : He.DefD := ⟨("made", none), "made", "made", defArgs s_made, defBody s_made, defScope s_made, [], []⟩
def d_plus : He.DefD := ⟨("plus", none), "plus", "plus", defArgs s_plus, defBody s_plus, defScope s_plus, [], []⟩
def d_less : He.DefD := ⟨("less", none), "less", "less", defArgs s_less, defBody s_less, defScope s_less, [], []⟩
def d_times : He.DefD := ⟨("times", none), "times", "times", defArgs s_times, defBody s_times, defScope s_times, [], []⟩
def d_over : He.DefD := ⟨("over", none), "over", "over", defArgs s_over, defBody s_over, defScope s_over, [], []⟩
def d_negative : He.DefD := ⟨("negative", none), "negative", "negative", defArgs s_negative, defBody s_negative, defScope s_negative, [], []⟩
def d_is_below : He.DefD := ⟨("is_below", none), "is_below", "is_below", defArgs s_is_below, defBody s_is_below, defScope s_is_below, [], []⟩
def d_between : He.DefD := ⟨("between", none), "between", "between", defArgs s_between, defBody s_between, defScope s_between, [], []⟩
def d_are_ratios : He.DefD := ⟨("are_ratios", none), "are_ratios", "are_ratios", defArgs s_are_ratios, defBody s_are_ratios, defScope s_are_ratios, [], []⟩
def d_trimmed : He.DefD := ⟨("trimmed", none), "trimmed", "trimmed", defArgs s_trimmed, defBody s_trimmed, defScope s_trimmed, [], []⟩
def d_at : He.DefD := ⟨("at", none), "at", "at", defArgs s_at, defBody s_at, defScope s_at, [], []⟩
def d_p_plus : He.DefD := ⟨("p_plus", none), "p_plus", "p_plus", defArgs s_p_plus, defBody s_p_plus, defScope s_p_plus, [], []⟩
def d_p_scaled : He.DefD := ⟨("p_scaled", none), "p_scaled", "p_scaled", defArgs s_p_scaled, defBody s_p_scaled, defScope s_p_scaled, [], []⟩
def d_p_times : He.DefD := ⟨("p_times", none), "p_times", "p_times", defArgs s_p_times, defBody s_p_times, defScope s_p_times, [], []⟩
def d_p_slope : He.DefD := ⟨("p_slope", none), "p_slope", "p_slope", defArgs s_p_slope, defBody s_p_slope, defScope s_p_slope, [], []⟩
def d_choose : He.DefD := ⟨("choose", none), "choose", "choose", defArgs s_choose, defBody s_choose, defScope s_choose, [], []⟩
def d_symmetric : He.DefD := ⟨("symmetric", none), "symmetric", "symmetric", defArgs s_symmetric, defBody s_symmetric, defScope s_symmetric, [], []⟩
def d_blossom_of : He.DefD := ⟨("blossom_of", none), "blossom_of", "blossom_of", defArgs s_blossom_of, defBody s_blossom_of, defScope s_blossom_of, [], []⟩
def d_faults_of : He.DefD := ⟨("faults_of", none), "faults_of", "faults_of", defArgs s_faults_of, defBody s_faults_of, defScope s_faults_of, [], []⟩
def d_basis_poly : He.DefD := ⟨("basis_poly", none), "basis_poly", "basis_poly", defArgs s_basis_poly, defBody s_basis_poly, defScope s_basis_poly, [], []⟩
def d_need_spline : He.DefD := ⟨("need_spline", none), "need_spline", "need_spline", defArgs s_need_spline, defBody s_need_spline, defScope s_need_spline, [], []⟩
def d_is_inner : He.DefD := ⟨("is_inner", none), "is_inner", "is_inner", defArgs s_is_inner, defBody s_is_inner, defScope s_is_inner, [], []⟩
def d_need_inner : He.DefD := ⟨("need_inner", none), "need_inner", "need_inner", defArgs s_need_inner, defBody s_need_inner, defScope s_need_inner, [], []⟩
def d_span_of : He.DefD := ⟨("span_of", none), "span_of", "span_of", defArgs s_span_of, defBody s_span_of, defScope s_span_of, [], []⟩
def d_pieces_of : He.DefD := ⟨("pieces_of", none), "pieces_of", "pieces_of", defArgs s_pieces_of, defBody s_pieces_of, defScope s_pieces_of, [], []⟩
def d_spline_pieces : He.DefD := ⟨("spline_pieces", none), "spline_pieces", "spline_pieces", defArgs s_spline_pieces, defBody s_spline_pieces, defScope s_spline_pieces, [], []⟩
def d_poly_over : He.DefD := ⟨("poly_over", none), "poly_over", "poly_over", defArgs s_poly_over, defBody s_poly_over, defScope s_poly_over, [], []⟩
def d_row_from : He.DefD := ⟨("row_from", none), "row_from", "row_from", defArgs s_row_from, defBody s_row_from, defScope s_row_from, [], []⟩
def d_with_knot : He.DefD := ⟨("with_knot", none), "with_knot", "with_knot", defArgs s_with_knot, defBody s_with_knot, defScope s_with_knot, [], []⟩
def d_inserted : He.DefD := ⟨("inserted", none), "inserted", "inserted", defArgs s_inserted, defBody s_inserted, defScope s_inserted, [], []⟩
def d_order_at : He.DefD := ⟨("order_at", none), "order_at", "order_at", defArgs s_order_at, defBody s_order_at, defScope s_order_at, [], []⟩
def d_smoothness_of : He.DefD := ⟨("smoothness_of", none), "smoothness_of", "smoothness_of", defArgs s_smoothness_of, defBody s_smoothness_of, defScope s_smoothness_of, [], []⟩
def d_smoothness : He.DefD := ⟨("smoothness", none), "smoothness", "smoothness", defArgs s_smoothness, defBody s_smoothness, defScope s_smoothness, [], []⟩
def d_removed : He.DefD := ⟨("removed", none), "removed", "removed", defArgs s_removed, defBody s_removed, defScope s_removed, [], []⟩
def d_l_taken : He.DefD := ⟨("_law_taken", none), "_law_taken", "_law_taken", defArgs s_l_taken, defBody s_l_taken, defScope s_l_taken, [], []⟩
def d_l_pick : He.DefD := ⟨("_law_pick", none), "_law_pick", "_law_pick", defArgs s_l_pick, defBody s_l_pick, defScope s_l_pick, [], []⟩
def d_l_alike : He.DefD := ⟨("_law_alike", none), "_law_alike", "_law_alike", defArgs s_l_alike, defBody s_l_alike, defScope s_l_alike, [], []⟩
def d_l_made : He.DefD := ⟨("_law_made", none), "_law_made", "_law_made", defArgs s_l_made, defBody s_l_made, defScope s_l_made, [], []⟩
def d_l_plus : He.DefD := ⟨("_law_plus", none), "_law_plus", "_law_plus", defArgs s_l_plus, defBody s_l_plus, defScope s_l_plus, [], []⟩
def d_l_minus : He.DefD := ⟨("_law_minus", none), "_law_minus", "_law_minus", defArgs s_l_minus, defBody s_l_minus, defScope s_l_minus, [], []⟩
def d_l_times : He.DefD := ⟨("_law_times", none), "_law_times", "_law_times", defArgs s_l_times, defBody s_l_times, defScope s_l_times, [], []⟩
def d_l_over : He.DefD := ⟨("_law_over", none), "_law_over", "_law_over", defArgs s_l_over, defBody s_l_over, defScope s_l_over, [], []⟩
def d_l_below : He.DefD := ⟨("_law_below", none), "_law_below", "_law_below", defArgs s_l_below, defBody s_l_below, defScope s_l_below, [], []⟩
def d_l_sum : He.DefD := ⟨("_law_sum", none), "_law_sum", "_law_sum", defArgs s_l_sum, defBody s_l_sum, defScope s_l_sum, [], []⟩
def d_l_draw : He.DefD := ⟨("_law_draw", none), "_law_draw", "_law_draw", defArgs s_l_draw, defBody s_l_draw, defScope s_l_draw, [], []⟩
def d_l_at : He.DefD := ⟨("_law_at", none), "_law_at", "_law_at", defArgs s_l_at, defBody s_l_at, defScope s_l_at, [], []⟩
def d_l_p_slope : He.DefD := ⟨("_law_p_slope", none), "_law_p_slope", "_law_p_slope", defArgs s_l_p_slope, defBody s_l_p_slope, defScope s_l_p_slope, [], []⟩
def d_l_slopes : He.DefD := ⟨("_law_slopes", none), "_law_slopes", "_law_slopes", defArgs s_l_slopes, defBody s_l_slopes, defScope s_l_slopes, [], []⟩
def d_l_middle : He.DefD := ⟨("_law_middle", none), "_law_middle", "_law_middle", defArgs s_l_middle, defBody s_l_middle, defScope s_l_middle, [], []⟩
def d_l_once : He.DefD := ⟨("_law_once", none), "_law_once", "_law_once", defArgs s_l_once, defBody s_l_once, defScope s_l_once, [], []⟩
def d_l_sorted : He.DefD := ⟨("_law_sorted", none), "_law_sorted", "_law_sorted", defArgs s_l_sorted, defBody s_l_sorted, defScope s_l_sorted, [], []⟩
def d_l_basis : He.DefD := ⟨("_law_basis", none), "_law_basis", "_law_basis", defArgs s_l_basis, defBody s_l_basis, defScope s_l_basis, [], []⟩
def d_l_spline : He.DefD := ⟨("_law_spline", none), "_law_spline", "_law_spline", defArgs s_l_spline, defBody s_l_spline, defScope s_l_spline, [], []⟩
def d_l_spline_at : He.DefD := ⟨("_law_spline_at", none), "_law_spline_at", "_law_spline_at", defArgs s_l_spline_at, defBody s_l_spline_at, defScope s_l_spline_at, [], []⟩
def d_l_within : He.DefD := ⟨("_law_within", none), "_law_within", "_law_within", defArgs s_l_within, defBody s_l_within, defScope s_l_within, [], []⟩
def d_l_same : He.DefD := ⟨("_law_same", none), "_law_same", "_law_same", defArgs s_l_same, defBody s_l_same, defScope s_l_same, [], []⟩
def d_l_fits_spline : He.DefD := ⟨("_law_fits_spline", none), "_law_fits_spline", "_law_fits_spline", defArgs s_l_fits_spline, defBody s_l_fits_spline, defScope s_l_fits_spline, [], []⟩
def d_law : He.DefD := ⟨("law", none), "law", "law", defArgs s_law, defBody s_law, defScope s_law, [], []⟩
def fn : List He.DefD := [d_is_int, d_is_from, d_is_ratio, d_made, d_plus, d_less, d_times, d_over, d_negative, d_is_below, d_between, d_are_ratios, d_trimmed, d_at, d_p_plus, d_p_scaled, d_p_times, d_p_slope, d_choose, d_symmetric, d_blossom_of, d_faults_of, d_basis_poly, d_need_spline, d_is_inner, d_need_inner, d_span_of, d_pieces_of, d_spline_pieces, d_poly_over, d_row_from, d_with_knot, d_inserted, d_order_at, d_smoothness_of, d_smoothness, d_removed, d_l_taken, d_l_pick, d_l_alike, d_l_made, d_l_plus, d_l_minus, d_l_times, d_l_over, d_l_below, d_l_sum, d_l_draw, d_l_at, d_l_p_slope, d_l_slopes, d_l_middle, d_l_once, d_l_sorted, d_l_basis, d_l_spline, d_l_spline_at, d_l_within, d_l_same, d_l_fits_spline, d_law]
def fa1 : List He.Fa := [.glo "ZERO", .glo "ONE", .glo "is_int", .glo "is_from", .glo "is_ratio", .glo "made", .glo "plus", .glo "less", .glo "times", .glo "over", .glo "negative", .glo "is_below", .glo "between", .glo "are_ratios", .glo "trimmed", .glo "at", .glo "p_plus", .glo "p_scaled", .glo "p_times", .glo "p_slope", .glo "choose", .glo "symmetric", .glo "blossom_of", .glo "faults_of", .glo "basis_poly", .glo "need_spline", .glo "is_inner", .glo "need_inner", .glo "span_of", .glo "pieces_of", .glo "spline_pieces", .glo "poly_over", .glo "row_from", .glo "with_knot", .glo "inserted"]
def fa2 : List He.Fa := [.glo "order_at", .glo "smoothness_of", .glo "smoothness", .glo "removed", .glo "_law_taken", .glo "_law_pick", .glo "_law_alike", .glo "_law_made", .glo "_law_plus", .glo "_law_minus", .glo "_law_times", .glo "_law_over", .glo "_law_below", .glo "_law_sum", .glo "_law_draw", .glo "_law_at", .glo "_law_p_slope", .glo "_law_slopes", .glo "_law_middle", .glo "_law_once", .glo "_law_sorted", .glo "_law_basis", .glo "_law_spline", .glo "_law_spline_at", .glo "_law_within", .glo "_law_same", .glo "_law_fits_spline", .glo "law"]
def fa3 : List He.Fa := [.free "isinstance", .free "len", .free "range", .free "tuple", .free "list", .free "max", .free "abs", .free "int", .free "enumerate", .free "zip", .free "all", .free "bool", .free "str", .int "MOST_DEGREE" 4, .int "MOST_KNOTS" 16]
def fa : List He.Fa := fa1 ++ (fa2 ++ fa3)
def xtra (K : PySem.W.Frag) : Bool := decide (PySem.W.nsIn K mainGlobals "gcd" = some (some (.builtin "math.gcd"))) && (He.tupB K "ZERO" [.int 0, .int 1] && He.tupB K "ONE" [.int 1, .int 1])
def SaysX (K : PySem.W.Frag) : Prop := He.SaysD fa fn K ∧ xtra K = true
def obsX (g : Addr → Option Obj) : Bool × He.AlD := (xtra (He.frG g (He.asD g 4)), He.obsDG 4 fa fn g)
def hk : PySem.W.Hook where
  α := Bool × He.AlD
  obs := fun s => obsX s.heap.get?
  val := fun _ => (true, He.valD fn)
  says := fun _ h => ∃ K : PySem.W.Frag, K.In h ∧ SaysX K
  of := fun _ _ e => ⟨_, He.frG_in, (Prod.mk.inj e).2, (Prod.mk.inj e).1⟩
  keeps := fun _ _ _ ⟨K, hK, c⟩ k => ⟨K, PySem.W.Frag.In.keeps hK k, c⟩
abbrev R : PySem.W.OpenRow := PySem.W.OpenLaw.row PySem.Challenge.rw_blendcurves_k32_whole_smooth_joints
def ob (s : PySem.W.SharedT) : Bool × He.AlD := obsX (HandSHeadRun.getT s)
theorem ob_eq (s : PySem.W.SharedT) : ob s = hk.obs s.abs := by
  have e : HandSHeadRun.getT s = s.abs.heap.get? := funext (HandSHeadRun.getT_eq s)
  show obsX (HandSHeadRun.getT s) = obsX s.abs.heap.get?
  rw [e]
def lo1 : List Str := [("BlendError" : Str), ("BadSpline" : Str), ("BadPlace" : Str), ("TooFull" : Str), ("TooMany" : Str), ("ZERO" : Str), ("ONE" : Str), ("is_int" : Str), ("is_from" : Str), ("is_ratio" : Str), ("made" : Str), ("plus" : Str), ("less" : Str), ("times" : Str), ("over" : Str), ("negative" : Str), ("is_below" : Str), ("between" : Str), ("are_ratios" : Str), ("trimmed" : Str), ("at" : Str), ("p_plus" : Str), ("p_scaled" : Str), ("p_times" : Str), ("p_slope" : Str)]
def lo2 : List Str := [("choose" : Str), ("symmetric" : Str), ("blossom_of" : Str), ("MOST_DEGREE" : Str), ("MOST_KNOTS" : Str), ("faults_of" : Str), ("basis_poly" : Str), ("need_spline" : Str), ("is_inner" : Str), ("need_inner" : Str), ("span_of" : Str), ("pieces_of" : Str), ("spline_pieces" : Str), ("poly_over" : Str), ("row_from" : Str), ("with_knot" : Str), ("inserted" : Str), ("order_at" : Str), ("smoothness_of" : Str), ("smoothness" : Str), ("removed" : Str), ("_law_taken" : Str), ("_law_pick" : Str), ("_law_alike" : Str), ("_law_made" : Str)]
def lo3 : List Str := [("_law_plus" : Str), ("_law_minus" : Str), ("_law_times" : Str), ("_law_over" : Str), ("_law_below" : Str), ("_law_sum" : Str), ("_law_draw" : Str), ("_law_at" : Str), ("_law_p_slope" : Str), ("_law_slopes" : Str), ("_law_middle" : Str), ("_law_once" : Str), ("_law_sorted" : Str), ("_law_basis" : Str), ("_law_spline" : Str), ("_law_spline_at" : Str), ("_law_within" : Str), ("_law_same" : Str), ("_law_fits_spline" : Str)]
def loose : List Str := lo1 ++ (lo2 ++ lo3)
end Bc
end
section
set_option Elab.async false
set_option linter.all false
set_option maxRecDepth 100000
set_option maxHeartbeats 0
namespace Bc
open PySem PySem.Spec PyProof.Rows L2
theorem run (w : World) : HandSHeadRun.RunEqI R (PySem.W.view R.prog [0, 78]) hk ob 6000 loose w := by
  unfold HandSHeadRun.RunEqI
  kernel_rfl
end Bc
end
section
set_option Elab.async false
set_option linter.all false
set_option maxRecDepth 100000
set_option maxHeartbeats 4000000
namespace Bc
open PySem PySem.Spec PyProof.Rows L2
section
variable {X : Cx}
/-! ### x in t, t.count(x), t.index(x): tuples of data -/
def rInT (K : PySem.W.Frag) : R2 := fun x y H Q => ∃ d ds, Dp K H x d ∧ Dp K H y (.tuple ds) ∧ SeqAt.shaped d = true ∧ SeqAt.shaped (.tuple ds) = true ∧ Q (.bl (ds.any fun z => PyData.eqv z d)) H
def rNotInT (K : PySem.W.Frag) : R2 := fun x y H Q => ∃ d ds, Dp K H x d ∧ Dp K H y (.tuple ds) ∧ SeqAt.shaped d = true ∧ SeqAt.shaped (.tuple ds) = true ∧ Q (.bl (!ds.any fun z => PyData.eqv z d)) H
theorem room_shaped {A : Around} {d : PyData} {xs : List PyData} (h : SeqAt.shaped d = true) (hu : A.units + 65 < cLine) : A.units + 1 + min (PyData.depthAll xs) d.depth < cLine := by
  have h2 : d.depth ≤ 64 := by
    have h3 : (d.canLay0 && decide (d.depth ≤ 64)) = true := h
    exact of_decide_eq_true (Bool.and_eq_true_iff.mp h3).2
  have := Nat.min_le_right (PyData.depthAll xs) d.depth
  omega
theorem shaped_lay {d : PyData} (h : SeqAt.shaped d = true) : d.canLay0 = true := by
  have h3 : (d.canLay0 && decide (d.depth ≤ 64)) = true := h
  exact (Bool.and_eq_true_iff.mp h3).1
theorem shaped_layT {ds : List PyData} (h : SeqAt.shaped (.tuple ds) = true) : PyData.canLayAll0 ds = true := by
  have h3 := shaped_lay h
  simpa only [PyData.canLay0] using h3
theorem op_inT (hu : X.A.units + 65 < cLine) : OpR X (compareOp .In) (rInT X.K) := by
  intro pins s σ H x y v u Q I rx ry h
  obtain ⟨d, ds, hd, he, sd, se, q⟩ := h
  obtain ⟨as, r1⟩ := Dp.reads I d x v hd rx
  obtain ⟨bs, r2⟩ := Dp.reads I (.tuple ds) y u he ry
  exact SeqAt.in_tuple_reads r2 r1 (shaped_layT se) (shaped_lay sd) (room_shaped sd hu) ⟨.bl _, H, I, rfl, q⟩
theorem op_notInT (hu : X.A.units + 65 < cLine) : OpR X (compareOp .NotIn) (rNotInT X.K) := by
  intro pins s σ H x y v u Q I rx ry h
  obtain ⟨d, ds, hd, he, sd, se, q⟩ := h
  obtain ⟨as, r1⟩ := Dp.reads I d x v hd rx
  obtain ⟨bs, r2⟩ := Dp.reads I (.tuple ds) y u he ry
  exact SeqAt.notIn_tuple_reads r2 r1 (shaped_layT se) (shaped_lay sd) (room_shaped sd hu) ⟨.bl _, H, I, rfl, q⟩
def rCountT (K : PySem.W.Frag) : V → List V → Hp → VK → Prop := fun x xs H Q => ∃ (a : Addr) (y : V) (d : PyData) (ds : List PyData), x = V.ref a ∧ xs = [y] ∧ Dp K H (V.ref a) (.tuple ds) ∧ Dp K H y d ∧
  SeqAt.shaped (.tuple ds) = true ∧ SeqAt.shaped d = true ∧ Q (.int ((ds.countP fun z => PyData.eqv z d : Nat) : Int)) H
theorem mt_countT (hu : X.A.units + 65 < cLine) : MtR X "tuple.count" (rCountT X.K) := by
  intro pins s σ H x xs v us Q I rx rxs h
  obtain ⟨a, y, d, ds, rfl, rfl, hl, hy, sl, sd, q⟩ := h
  cases rx
  cases rxs with
  | cons ry rt =>
    rename_i uy ut
    cases rt
    obtain ⟨bs, r1⟩ := Dp.reads I d y uy hy ry
    have hxs : PyData.canLayAll0 ds = true := shaped_layT sl
    cases hl with
    | tup hs ha =>
      obtain ⟨its, rv, ⟨⟨cls, dd, data, sls⟩, ho, hc, n, hdt⟩, hlen⟩ := I.tuple hs
      simp only at hc hdt
      subst hc hdt
      obtain ⟨as, h4⟩ := Dp.readsAll I ds _ its ha rv
      have hmap : its.map (SeqAt.readOf s.heap) = ds := SeqAt.readsAll_map ds its as hxs h4
      refine call_meets PySem.F.slot_tuple_count ⟨_, ho, rfl⟩ PySem.F.entry_tuple_count (PySem.F.args_tuple_count_2 _ _)
        (SeqAt.tuple_countAt a its.toArray n dd sls uy (fun u => PyData.eqv (SeqAt.readOf s.heap u) d)) ⟨ho, SeqAt.items_eqAt (vs := its.toArray) (show ReadsAll s.heap its.toArray.toList ds as from h4) r1 hxs (shaped_lay sd) (room_shaped sd hu), ?_⟩
      refine ⟨.int ((ds.countP fun z => PyData.eqv z d : Nat) : Int), H, I.tok _, ⟨s.toks, ?_⟩, q⟩
      rw [← hmap, List.countP_map]
      rfl
def rIndexT (K : PySem.W.Frag) : V → List V → Hp → VK → Prop := fun x xs H Q => ∃ (a : Addr) (y : V) (d : PyData) (ds : List PyData) (j : Nat) (z : PyData), x = V.ref a ∧ xs = [y] ∧ Dp K H (V.ref a) (.tuple ds) ∧ Dp K H y d ∧
  SeqAt.shaped (.tuple ds) = true ∧ SeqAt.shaped d = true ∧ ds[j]? = some z ∧ PyData.eqv z d = true ∧ (∀ (m : Nat) (z' : PyData), m < j → ds[m]? = some z' → PyData.eqv z' d = false) ∧ Q (.int (j : Nat)) H
theorem mt_indexT (hu : X.A.units + 65 < cLine) : MtR X "tuple.index" (rIndexT X.K) := by
  intro pins s σ H x xs v us Q I rx rxs h
  obtain ⟨a, y, d, ds, j, z, rfl, rfl, hl, hy, sl, sd, hz, hzj, hno, q⟩ := h
  cases rx
  cases rxs with
  | cons ry rt =>
    rename_i uy ut
    cases rt
    obtain ⟨bs, r1⟩ := Dp.reads I d y uy hy ry
    have hxs : PyData.canLayAll0 ds = true := shaped_layT sl
    cases hl with
    | tup hs ha =>
      obtain ⟨its, rv, ⟨⟨cls, dd, data, sls⟩, ho, hc, n, hdt⟩, hlen⟩ := I.tuple hs
      simp only at hc hdt
      subst hc hdt
      obtain ⟨as, h4⟩ := Dp.readsAll I ds _ its ha rv
      have hn : its.length = ds.length := SeqAt.ReadsAll.length ds its as h4
      have hmap : its.map (SeqAt.readOf s.heap) = ds := SeqAt.readsAll_map ds its as hxs h4
      have hvl := rv.length
      have hsl := sizeLine_eq
      obtain ⟨hjd, _⟩ := List.getElem?_eq_some_iff.mp hz
      have hjl : j < its.length := by omega
      have hj : j < its.toArray.size := by simpa using hjl
      have at_ : ∀ (m : Nat) (hm : m < its.toArray.size) (z' : PyData), ds[m]? = some z' → SeqAt.readOf s.heap its.toArray[m] = z' := by
        intro m hm z' hz'
        have hml : m < its.length := by simpa using hm
        rw [← hmap, List.getElem?_map, List.getElem?_eq_getElem hml] at hz'
        have e1 : SeqAt.readOf s.heap its[m] = z' := Option.some.inj (show some (SeqAt.readOf s.heap its[m]) = some z' from hz')
        simpa using e1
      refine call_meets PySem.F.slot_tuple_index ⟨_, ho, rfl⟩ PySem.F.entry_tuple_index (PySem.F.args_tuple_index_2 _ _)
        (TI.tuple_indexAt a its.toArray n dd sls uy (fun u => PyData.eqv (SeqAt.readOf s.heap u) d) j hj ?_ ?_) ⟨ho, SeqAt.items_eqAt (vs := its.toArray) (show ReadsAll s.heap its.toArray.toList ds as from h4) r1 hxs (shaped_lay sd) (room_shaped sd hu), ?_⟩
      · show PyData.eqv (SeqAt.readOf s.heap its.toArray[j]) d = true
        rw [at_ j hj z hz]
        exact hzj
      · intro m hm hmj
        have hmd : m < ds.length := by omega
        have hz' : ds[m]? = some ds[m] := List.getElem?_eq_getElem hmd
        show PyData.eqv (SeqAt.readOf s.heap its.toArray[m]) d = false
        rw [at_ m hm _ hz']
        exact hno m _ hmj hz'
      · exact ⟨.int (j : Nat), H, I.tok _, ⟨_, rfl⟩, q⟩

/-! ### t[::-1] of a tuple -/
theorem fm_congr {α β : Type} {f g : α → Option β} : ∀ {l : List α}, (∀ x ∈ l, f x = g x) → l.filterMap f = l.filterMap g
  | [], _ => rfl
  | a :: t, h => by
    rw [List.filterMap_cons, List.filterMap_cons, h a List.mem_cons_self, fm_congr fun x hx => h x (List.mem_cons_of_mem _ hx)]
theorem back_pick (items : Array Value) : ((List.range items.size).filterMap fun (k : Nat) => items[(((items.size : Int) - 1) + (k : Int) * (-1)).toNat]?).toArray = items.toList.reverse.toArray := by
  have e : (List.range items.size).filterMap (fun (k : Nat) => items[(((items.size : Int) - 1) + (k : Int) * (-1)).toNat]?) = ((List.range items.size).map fun k => items.size - 1 - k).filterMap (items[·]?) := by
    rw [List.filterMap_map]
    refine fm_congr fun k hk => ?_
    have := List.mem_range.mp hk
    show items[(((items.size : Int) - 1) + (k : Int) * (-1)).toNat]? = items[items.size - 1 - k]?
    congr 1
    omega
  rw [e, PySem.W.krv_range, List.filterMap_reverse, PySem.W.krv_all]
theorem getItem_tuple_back {prog : Program} {w : World} {A : Around} {E : Value → Shared → Prop} {s : Shared} {t sl : Addr} {items : Array Value} {tk : Tok} {Q : Value → Shared → Prop} (ht : IsTup s.heap t items) (hs : s.heap.IsSliceOf sl .none .none (.int (-1) tk))
    (h : Q (.ref s.heap.objs.size) { s with heap := s.heap.push { cls := .type "tuple", data := .seq items.toList.reverse.toArray } }) (hsz : items.size ≤ sizeLine) : wpAny (model prog w) A (getItem (.ref t) (.ref sl)) Q E s := by
  have htake : sizeOk (.seq items.toList.reverse.toArray) := by
    show items.toList.reverse.toArray.size ≤ sizeLine
    rw [List.size_toArray, List.length_reverse, Array.length_toList]; exact hsz
  obtain ⟨os, hos, hcs, hds⟩ := id hs
  have hTs : s.TypeIs (.ref sl) "slice" := ⟨os, hos, hcs⟩
  unfold getItem
  try with_reducible refine wpAny_holding ?_
  first | refine wpAny_bind (wpAny_pure ?_) | skip
  refine wpAny_bind (wpAny_sequenceKey ht.typeIs (by decide) ?_)
  refine wpAny_bind (wpAny_callSpecial?_slot (name := Str.ofString "__getitem__") ht.typeIs PyProof.Rows.slot_tuple_getitem
    (wpAny_call_entry PyProof.Rows.slot_tuple_getitem ht.typeIs PyProof.Rows.entry_tuple_getitem ?_ (PyProof.Rows.args_tuple_getitem _ _)))
  show wpAny _ _ (Builtin.Tuple.tupleItemsOf (.ref t) >>= _) _ _ s
  refine wpAny_bind (PyProof.Rows.tupleItemsOf_ ht ?_)
  refine wpAny_bind (wpAny_typeOf hTs ?_)
  rw [if_pos (by decide)]
  have app : ∀ {A' : Around} {E' : Value → Shared → Prop} {Q : Int × Int × Nat → Shared → Prop}, Q ((items.size : Int) - 1, -1, items.size) s → wpAny (model prog w) A' (Builtin.Slice.sliceApplied (.ref sl) (pure (items.size : Int))) Q E' s := by
    intro A' E' Q h
    unfold Builtin.Slice.sliceApplied Builtin.Slice.sliceFields
    refine wpAny_bind (wpAny_bind (wpAny_field hos hds (x := .none) rfl (wpAny_bind (wpAny_field hos hds (x := .none) rfl (wpAny_bind (wpAny_field hos hds (x := .int (-1) tk) rfl (wpAny_pure ?_)))))))
    refine wpAny_bind (slicePart_int ?_)
    show wpAny _ _ (if ((-1 : Int) == 0) = true then _ else _) _ _ s
    rw [if_neg (by decide)]
    refine wpAny_bind (slicePart_none (wpAny_bind (slicePart_none (wpAny_bind (wpAny_pure ?_)))))
    have e1 : Builtin.Slice.sliceAdjust none none (-1) (items.size : Int) = ((items.size : Int) - 1, -1) := by
      unfold Builtin.Slice.sliceAdjust
      simp
    have e2 : Builtin.Slice.slicePlaces ((items.size : Int) - 1) (-1) (-1) = items.size := by
      unfold Builtin.Slice.slicePlaces
      simp
      omega
    show wpAny _ _ (match Builtin.Slice.sliceAdjust none none (-1) (items.size : Int) with | (lo, hi) => pure (lo, (-1 : Int), Builtin.Slice.slicePlaces lo hi (-1))) _ _ s
    rw [e1]
    show wpAny _ _ (pure ((items.size : Int) - 1, (-1 : Int), Builtin.Slice.slicePlaces ((items.size : Int) - 1) (-1) (-1))) _ _ s
    rw [e2]
    exact wpAny_pure h
  refine wpAny_bind (app ?_)
  show wpAny _ _ (if (((items.size : Int) - 1) == 0 && (-1 : Int) == 1 && items.size == items.size) = true then _ else _) _ _ s
  have hno : ¬ (((((items.size : Int) - 1) == 0 && (-1 : Int) == 1 && items.size == items.size)) = true) := by simp
  rw [if_neg hno, back_pick]
  first
    | exact wpAny_bind (m := Builtin.Tuple.tupleExact _) (wpAny_newObj_type (wpAny_pure ⟨_, rfl, wpAny_pure h⟩) htake)
    | exact wpAny_bind (m := Builtin.Tuple.tupleExact _) (wpAny_newObj_type (wpAny_bind (wpAny_pure (wpAny_pure ⟨_, rfl, wpAny_pure h⟩))) htake)
    | exact wpAny_bind (wpAny_bind (m := Builtin.Tuple.tupleExact _) (wpAny_newObj_type (wpAny_pure (wpAny_pure ⟨_, rfl, wpAny_pure h⟩)) htake))
    | exact wpAny_bind (wpAny_bind (m := Builtin.Tuple.tupleExact _) (wpAny_newObj_type (wpAny_pure ⟨_, rfl, wpAny_pure h⟩) htake))
def tRevT (K : PySem.W.Frag) (te : TE) : TE := fun σ H Q => te σ H fun x H1 => ∃ a xs, x = .ref a ∧ SqT K H1 a xs ∧ ∀ p, H1 p = none → Q (.ref p) (upd H1 p (.tup xs.reverse))
theorem pe_revT {e : Expr} {te : TE} {k : Nat} {p1 p2 p3 pos : Pos} (he : PE X e te) : PE X (.Subscript e (.Slice none none (some (.UnaryOp .USub (.Constant (.int 1) k p1) p2)) p3) pos) (tRevT X.K te) := by
  refine ⟨fun pins s σ H Q I h => ?_⟩
  refine Subscript_ (thn (he.run pins s σ H _ I h) fun v s1 ⟨x, H1, I1, r1, q1⟩ => ?_)
  obtain ⟨a, xs, ex, hx, q⟩ := q1
  subst ex
  cases r1
  have hst : PO X (some (.UnaryOp .USub (.Constant (.int 1) k p1) p2)) (tPart (tUn (rU fun i => .int (-i)) (tC (.int 1)))) := po_some (pe_un un_neg pe_int)
  refine wpAny_Slice (thn (po_none.run pins s1 σ H1 (fun o H2 => o = none ∧ H2 = H1) I1 ⟨rfl, rfl⟩) fun vl s2 ⟨l, H2, I2, pl, el, e2⟩ => ?_)
  subst el e2
  refine thn (po_none.run pins s2 σ H2 (fun o H3 => o = none ∧ H3 = H2) I2 ⟨rfl, rfl⟩) fun vu s3 ⟨u, H3, I3, pu, eu, e3⟩ => ?_
  subst eu e3
  refine thn (hst.run pins s3 σ H3 (fun o H4 => o = some (-1) ∧ H4 = H3) I3 ⟨1, rfl, -1, rfl, rfl, rfl⟩) fun vs s4 ⟨o, H4, I4, ps, eo, e4⟩ => ?_
  subst eo e4
  have I5 : Inv X pins σ H4 { s4 with heap := s4.heap.push { cls := .type "slice", data := .fields #[vl, vu, vs] } } := I4.kept (t' := s4.toks) fun b ob q => Heap.get?_push_of_some _ q
  obtain ⟨its, r, ht, hz⟩ := I5.tuple hx
  have hlen := r.length
  show wpAny (model X.prog X.w) X.A (subscriptTail e (.Slice none none (some (.UnaryOp .USub (.Constant (.int 1) k p1) p2)) p3) (.ref a) (.ref s4.heap.objs.size)) (EP X pins σ Q) X.xe { s4 with heap := s4.heap.push { cls := .type "slice", data := .fields #[vl, vu, vs] } }
  refine tail_any (ops := [.ref a, .ref s4.heap.objs.size]) ht.typeIs PyProof.Rows.slot_tuple_getitem.lookup ?_ (by with_unfolding_all rfl)
  cases pl
  cases pu
  cases ps
  refine getItem_tuple_back ht (Heap.IsSliceOf.new _ _ _ _) ?_ (by rw [List.size_toArray]; omega)
  refine ⟨.ref _, _, I5.laid (t' := s4.toks) (o := .tup xs.reverse) (fun b ob q => Heap.get?_push_of_some _ q) (Nat.le_refl _) ?_, rfl, q _ (I5.hok.fresh (Nat.le_refl _))⟩
  exact ⟨by rw [List.length_reverse]; exact hz, _, r.reverse, IsTup.new _ _⟩
end
/-! ### enumerate(tuple) -/
set_option maxHeartbeats 4000000 in
theorem meets_enumerate_new1 {v : Value} {o : Obj} {H : Heap → Prop} (B : Begins v o H) :
    Meets (Builtin.«enumerate.__new__» ⟨[.type "enumerate", v], []⟩) (fun _ R s => H s.heap ∧
      R (.ok (.ret (.ref (s.heap.push o).objs.size))) { s with heap := (s.heap.push o).push { cls := .type "enumerate", data := .fields #[.none, .bool false, .ref s.heap.objs.size, rawInt 0, .none, .none] } }) :=
  .of_wp fun prog w A R s h => by
    obtain ⟨hp, g, d, tk, os⟩ := s; obtain ⟨h1, h⟩ := h
    have hsub := sub_enumerate
    have q1 : ∀ {A' : Around} {E : Value → Shared → Prop} {Q : Value → Shared → Prop}, Q (.ref hp.objs.size) ⟨hp.push o, g, d, tk, os⟩ → wpAny (model prog w) A' (pyIter v) Q E ⟨hp, g, d, tk, os⟩ :=
      fun q => B.iter prog w _ _ ⟨hp, g, d, tk, os⟩ _ h1 q
    wp_walk using q1
    refine wpAny_stack_any fun st => wpAny_pure ?_
    split
    · rename_i c _ _ _ _ _
      cases (c == Value.type "enumerate")
      · wp_walk using q1
        exact ⟨_, rfl, h⟩
      · wp_walk using q1
        exact ⟨_, rfl, h⟩
    · wp_walk using q1
      exact ⟨_, rfl, h⟩
theorem call_enumerate_tuple {prog : Program} {w : World} {A : Around} {E : Value → Shared → Prop} {s : Shared} {l : Addr} {items : Array Value} {Q : Value → Shared → Prop} (hL : s.heap.IsTuple l items)
    (h : ∀ h', IsEnum h' (s.heap.objs.size + 1) s.heap.objs.size 0 .none → h'.IsTupleIter s.heap.objs.size l 0 → h'.objs.size = s.heap.objs.size + 2 →
      (∀ b o, s.heap.get? b = some o → h'.get? b = some o) → Q (.ref (s.heap.objs.size + 1)) { s with heap := h' }) :
    wpAny (model prog w) A (call (.type "enumerate") [.ref l]) Q E s := by
  have B := begins_tuple l items
  refine callType_new F.called_enumerate (by decide) (F.typeCall_enumerate_1 _) (F.newCall_enumerate_1 _) (fun obj => F.args_object_init_2 obj _) F.entry_enumerate_new
    (meets_enumerate_new1 B) ⟨hL, ?_⟩
  have hz : (s.heap.push { cls := .type "tuple_iterator", data := .fields #[.ref l, .int 0 0] }).objs.size = s.heap.objs.size + 1 := Heap.size_push ..
  show _ ∧ _
  rw [hz]
  have he : IsEnum ((s.heap.push { cls := .type "tuple_iterator", data := .fields #[.ref l, .int 0 0] }).push
      { cls := .type "enumerate", data := .fields #[.none, .bool false, .ref s.heap.objs.size, rawInt 0, .none, .none] }) (s.heap.objs.size + 1) s.heap.objs.size 0 .none := by
    have := Heap.get?_push_size (s.heap.push { cls := .type "tuple_iterator", data := .fields #[.ref l, .int 0 0] })
      (o := { cls := .type "enumerate", data := .fields #[.none, .bool false, .ref s.heap.objs.size, rawInt 0, .none, .none] }) rfl
    rw [hz] at this; exact this
  refine ⟨⟨_, he, rfl⟩, h _ he ⟨_, Heap.get?_push_of_some _ (Heap.get?_push_size _ rfl), rfl, rfl⟩ (by rw [Heap.size_push, hz]) fun b o x => Heap.get?_push_of_some _ (Heap.get?_push_of_some _ x)⟩
def IteT (K : PySem.W.Frag) (a : Addr) : It :=
  ⟨fun i H => ∃ (xs : List V) (x : V), SqT K H a xs ∧ xs[i]? = some x, fun i H v H' => ∃ T x, v = .ref T ∧ H T = none ∧ H' = upd H T (.tup [.int (i : Nat), x]) ∧ ∀ xs, SqT K H a xs → xs[i]? = some x, fun i H => ∃ xs : List V, SqT K H a xs ∧ xs.length = i⟩
theorem turn_enumT {P : Program} {w : World} {K : PySem.W.Frag} {elts : List Expr} {kk : Nat} {tpos : Pos} (a e it : Addr) :
    Turn P w K (.Tuple elts kk tpos) (IteT K a) [e, it] e (fun i h => (∃ old, IsEnum h e it ((i : Nat) : Int) old) ∧ h.IsTupleIter it a i ∧ e ≠ it) where
  mem := by simp
  obj := fun i h st b hb => by
    obtain ⟨⟨old, he⟩, ⟨o, ho, hc, hd⟩, _⟩ := st
    have e' : b = e ∨ b = it := by simpa using hb
    rcases e' with z | z
    · rw [z]; exact ⟨_, he, fun v q => nomatch q⟩
    · rw [z]; exact ⟨o, ho, fun v q => by rw [hd] at q; cases q⟩
  keep := fun i h h' st k => let ⟨⟨old, he⟩, hi, hne⟩ := st; ⟨⟨old, k e (by simp) _ he⟩, hi.at fun o q => k it (by simp) o q, hne⟩
  item := by
    intro X hP hw hK hc i pins s σ H E I hf st hg
    subst hP hw hK
    obtain ⟨⟨old, he⟩, hit, hne⟩ := st
    obtain ⟨xs, x, hq, hx⟩ := hg
    obtain ⟨its, rv, p, hz⟩ := I.tuple hq
    obtain ⟨u, hu, ru⟩ := rv.get hx
    have hel : e < s.heap.objs.size := Heap.lt_size he
    have hil : it < s.heap.objs.size := by obtain ⟨_, q, _⟩ := hit; exact Heap.lt_size q
    have hea : e ≠ a := fun z => by
      obtain ⟨o, ho, hcl, _⟩ := p
      have he' : s.heap.get? a = _ := z ▸ he
      rw [ho] at he'
      have := congrArg Obj.cls (Option.some.inj he')
      rw [hcl] at this
      exact absurd (Value.type.inj this) (by decide)
    have hai : a ≠ it := fun z => by
      obtain ⟨o, ho, hcl, _⟩ := p
      obtain ⟨o2, ho2, hcl2, _⟩ := hit
      rw [z, ho2] at ho
      have := congrArg Obj.cls (Option.some.inj ho)
      rw [hcl, hcl2] at this
      exact absurd (Value.type.inj this) (by decide)
    have D := Draws.tuple (prog := X.prog) (w := X.w) (A := X.A.in1) (I.ok.hd hc) it a hai its.toArray
    have hlt : i < its.toArray.size := by
      have := (List.getElem?_eq_some_iff.mp hu).1
      simpa using this
    refine wpAny_pyNext_enum_itemC D he ⟨hit, p⟩ hlt hne (by simp [hne, hea]) fun u' h' tk hP ho hst' hT hsz hk => ?_
    have eu : u' = u := by
      have h1 : its.toArray[i]? = some u' := hP
      rw [List.getElem?_toArray, hu] at h1
      exact (Option.some.inj h1).symm
    subst eu
    refine ⟨_, rfl, wpAny_letOwnedTupleGo_enum (s := { s with heap := h', toks := tk + 1 }) ho fun h'' he' sb => ?_⟩
    have hT2 : h''.get? s.heap.objs.size = some { cls := .type "tuple", data := .seq #[.int i tk, u'] } := (sb.2 _ (Nat.ne_of_gt hel)).trans hT
    have new : ObjOk X.prog X.w (upd H s.heap.objs.size (.tup [.int (i : Nat), x])) h'' s.heap.objs.size (.tup [.int (i : Nat), x]) :=
      ⟨by show 2 ≤ sizeLine; decide, [.int i tk, u'], .cons ⟨_, rfl⟩ (.cons ru .nil), ⟨_, hT2, rfl, _, rfl⟩⟩
    have I1 : Inv X pins σ (upd H s.heap.objs.size (.tup [.int (i : Nat), x])) { s with heap := h'', toks := tk + 1 } :=
      I.turnedNew (ch := [e, it]) (fun b ob hb q => (sb.2 b (fun z => hb (by simp [z]))).trans (hk b ob (fun z => hb (by simp [z])) (fun z => hb (by simp [z])) q)) hf (Nat.le_refl _) new
    refine ⟨.ref s.heap.objs.size, _, I1, rfl, ⟨_, x, rfl, I.hok.fresh (Nat.le_refl _), rfl, fun ys hy => by rw [I.tuple_inj hy hq]; exact hx⟩, ⟨⟨u', ?_⟩, hst'.1.at fun o q => (sb.2 it (Ne.symm hne)).trans q, hne⟩, fun b hb => ?_⟩
    · have e1 : ((i + 1 : Nat) : Int) = (i : Int) + 1 := by omega
      rw [e1]; exact he'
    · have hb' : b < s.heap.objs.size := by
        have e' : b = e ∨ b = it := by simpa using hb
        rcases e' with z | z
        · rw [z]; exact hel
        · rw [z]; exact hil
      rw [upd_ne (Nat.ne_of_lt hb')]
      exact (hf b hb).1
  done := by
    intro X hP hw hK hc i pins s σ H E I hf st hg
    subst hP hw hK
    obtain ⟨⟨old, he⟩, hit, hne⟩ := st
    obtain ⟨xs, hq, hx⟩ := hg
    obtain ⟨its, rv, p, hz⟩ := I.tuple hq
    obtain ⟨f0, f1, f2, f3, f4, f5⟩ := hf it (by simp)
    have hl := rv.length
    have hai : a ≠ it := fun z => by
      obtain ⟨o, ho, hcl, _⟩ := p
      obtain ⟨o2, ho2, hcl2, _⟩ := hit
      rw [z, ho2] at ho
      have := congrArg Obj.cls (Option.some.inj ho)
      rw [hcl, hcl2] at this
      exact absurd (Value.type.inj this) (by decide)
    have D := Draws.tuple (prog := X.prog) (w := X.w) (A := X.A.in1) (I.ok.hd hc) it a hai its.toArray
    have hn : its.toArray.size = i := by rw [List.size_toArray]; omega
    refine wpAny_pyNext_enum_endD D he (by rw [hn]; exact ⟨hit, p⟩) fun h' eb => ⟨rfl, I.turned (t' := s.toks) (fun b o hb q => eb b o hb q) f0 f1 f3 f4 f5⟩
  self := fun A i s Q E st h => let ⟨⟨_, he⟩, _⟩ := st; wpAny_pyIter_enum he h
def iEnumT (K : PySem.W.Frag) (ta : TA) : TI := fun σ H R => ta σ H fun vs H1 => ∃ a xs, vs = [.ref a] ∧ SqT K H1 a xs ∧ R (IteT K a) H1
theorem pi_enumT {X : Cx} {e : Expr} {ta : TA} {p pos tpos : Pos} {elts : List Expr} {kk : Nat} (hg : Gl X "enumerate") (hm : X.mg "enumerate" = none) (ha : PA X [e] ta) (hs : starEach [e] X.env = [(false, eval e X.env)] := by rfl) :
    PI X (.Tuple elts kk tpos) (.Call (.Name "enumerate" p) [e] [] pos) (iEnumT X.K ta) := by
  refine ⟨fun pins s σ H R I h => ?_⟩
  refine Call_ (ld_blt I hg hm boot_enumerate (PyProof.Rows.callWith_type1 (thn (ha.run pos pins s σ H _ I h) fun us s1 ⟨vs, H1, I1, r1, q1⟩ => ?_) hs rfl))
  obtain ⟨a, xs, ex, hq, q⟩ := q1
  subst ex
  cases r1 with
  | cons r rr =>
    cases rr
    cases r
    obtain ⟨its, rv, p', hz⟩ := I1.tuple hq
    refine call_enumerate_tuple (show s1.heap.IsTuple a its.toArray from p') fun h' he hit hsz hk => wpAny_pyIter_enum he ?_
    have I2 : Inv X pins σ H1 { s1 with heap := h' } := I1.kept (t' := s1.toks) hk
    refine ⟨s1.heap.objs.size + 1, [s1.heap.objs.size + 1, s1.heap.objs.size], _, _, H1, rfl, I2, turn_enumT a (s1.heap.objs.size + 1) s1.heap.objs.size, ⟨⟨.none, he⟩, hit, Nat.succ_ne_self _⟩, fun b hb => ?_, q⟩
    have e' : b = s1.heap.objs.size + 1 ∨ b = s1.heap.objs.size := by simpa using hb
    have hle : s1.heap.objs.size ≤ b := by
      rcases e' with z | z
      · rw [z]; exact Nat.le_add_right _ _
      · rw [z]; exact Nat.le_refl _
    exact I1.fpOk hle (I1.hok.fresh hle)
end Bc
end
section
set_option Elab.async false
set_option linter.all false
set_option maxRecDepth 100000
set_option maxHeartbeats 4000000
namespace Bc
open PySem PySem.Spec PyProof.Rows L2
abbrev n_is_int : List Str := ["value"]
theorem sc_is_int : FnScope ["value"] ["value"] (defScope s_is_int) := ⟨rfl, rfl, rfl, by decide +kernel, rfl, by decide +kernel, by decide +kernel⟩
abbrev n_is_from : List Str := ["value", "least", "most"]
theorem sc_is_from : FnScope ["value", "least", "most"] ["value", "least", "most"] (defScope s_is_from) := ⟨rfl, rfl, rfl, by decide +kernel, rfl, by decide +kernel, by decide +kernel⟩
abbrev n_is_ratio : List Str := ["value"]
theorem sc_is_ratio : FnScope ["value"] ["value"] (defScope s_is_ratio) := ⟨rfl, rfl, rfl, by decide +kernel, rfl, by decide +kernel, by decide +kernel⟩
abbrev n_made : List Str := ["top", "low", "part"]
theorem sc_made : FnScope ["top", "low", "part"] ["top", "low"] (defScope s_made) := ⟨rfl, rfl, rfl, by decide +kernel, rfl, by decide +kernel, by decide +kernel⟩
abbrev n_plus : List Str := ["one", "other"]
theorem sc_plus : FnScope ["one", "other"] ["one", "other"] (defScope s_plus) := ⟨rfl, rfl, rfl, by decide +kernel, rfl, by decide +kernel, by decide +kernel⟩
abbrev n_less : List Str := ["one", "other"]
theorem sc_less : FnScope ["one", "other"] ["one", "other"] (defScope s_less) := ⟨rfl, rfl, rfl, by decide +kernel, rfl, by decide +kernel, by decide +kernel⟩
abbrev n_times : List Str := ["one", "other"]
theorem sc_times : FnScope ["one", "other"] ["one", "other"] (defScope s_times) := ⟨rfl, rfl, rfl, by decide +kernel, rfl, by decide +kernel, by decide +kernel⟩
abbrev n_over : List Str := ["one", "other"]
theorem sc_over : FnScope ["one", "other"] ["one", "other"] (defScope s_over) := ⟨rfl, rfl, rfl, by decide +kernel, rfl, by decide +kernel, by decide +kernel⟩
abbrev n_negative : List Str := ["one"]
theorem sc_negative : FnScope ["one"] ["one"] (defScope s_negative) := ⟨rfl, rfl, rfl, by decide +kernel, rfl, by decide +kernel, by decide +kernel⟩
abbrev n_is_below : List Str := ["one", "other"]
theorem sc_is_below : FnScope ["one", "other"] ["one", "other"] (defScope s_is_below) := ⟨rfl, rfl, rfl, by decide +kernel, rfl, by decide +kernel, by decide +kernel⟩
abbrev n_between : List Str := ["one", "other", "part"]
theorem sc_between : FnScope ["one", "other", "part"] ["one", "other", "part"] (defScope s_between) := ⟨rfl, rfl, rfl, by decide +kernel, rfl, by decide +kernel, by decide +kernel⟩
abbrev n_are_ratios : List Str := ["value", "many", "one"]
theorem sc_are_ratios : FnScope ["value", "many", "one"] ["value", "many"] (defScope s_are_ratios) := ⟨rfl, rfl, rfl, by decide +kernel, rfl, by decide +kernel, by decide +kernel⟩
abbrev n_trimmed : List Str := ["row", "many"]
theorem sc_trimmed : FnScope ["row", "many"] ["row"] (defScope s_trimmed) := ⟨rfl, rfl, rfl, by decide +kernel, rfl, by decide +kernel, by decide +kernel⟩
abbrev n_at : List Str := ["poly", "x", "found", "one"]
theorem sc_at : FnScope ["poly", "x", "found", "one"] ["poly", "x"] (defScope s_at) := ⟨rfl, rfl, rfl, by decide +kernel, rfl, by decide +kernel, by decide +kernel⟩
abbrev n_p_plus : List Str := ["one", "other", "size", "first", "second", "x", "y"]
theorem sc_p_plus : FnScope ["one", "other", "size", "first", "second", "x", "y"] ["one", "other"] (defScope s_p_plus) := ⟨rfl, rfl, rfl, by decide +kernel, rfl, by decide +kernel, by decide +kernel⟩
abbrev n_p_scaled : List Str := ["poly", "number", "one"]
theorem sc_p_scaled : FnScope ["poly", "number", "one"] ["poly", "number"] (defScope s_p_scaled) := ⟨rfl, rfl, rfl, by decide +kernel, rfl, by decide +kernel, by decide +kernel⟩
abbrev n_p_times : List Str := ["one", "other", "found", "place", "x", "more", "y"]
theorem sc_p_times : FnScope ["one", "other", "found", "place", "x", "more", "y"] ["one", "other"] (defScope s_p_times) := ⟨rfl, rfl, rfl, by decide +kernel, rfl, by decide +kernel, by decide +kernel⟩
abbrev n_p_slope : List Str := ["poly", "power", "one"]
theorem sc_p_slope : FnScope ["poly", "power", "one"] ["poly"] (defScope s_p_slope) := ⟨rfl, rfl, rfl, by decide +kernel, rfl, by decide +kernel, by decide +kernel⟩
abbrev n_choose : List Str := ["many", "few", "found", "turn"]
theorem sc_choose : FnScope ["many", "few", "found", "turn"] ["many", "few"] (defScope s_choose) := ⟨rfl, rfl, rfl, by decide +kernel, rfl, by decide +kernel, by decide +kernel⟩
abbrev n_symmetric : List Str := ["places", "found", "place", "longer", "at"]
theorem sc_symmetric : FnScope ["places", "found", "place", "longer", "at"] ["places"] (defScope s_symmetric) := ⟨rfl, rfl, rfl, by decide +kernel, rfl, by decide +kernel, by decide +kernel⟩
abbrev n_blossom_of : List Str := ["poly", "places", "found", "told", "power", "number"]
theorem sc_blossom_of : FnScope ["poly", "places", "found", "told", "power", "number"] ["poly", "places"] (defScope s_blossom_of) := ⟨rfl, rfl, rfl, by decide +kernel, rfl, by decide +kernel, by decide +kernel⟩
abbrev n_faults_of : List Str := ["degree", "value", "index", "one"]
theorem sc_faults_of : FnScope ["degree", "value", "index", "one"] ["degree", "value"] (defScope s_faults_of) := ⟨rfl, rfl, rfl, by decide +kernel, rfl, by decide +kernel, by decide +kernel⟩
abbrev n_basis_poly : List Str := ["degree", "knots", "index", "place", "found", "low", "high", "part", "line"]
theorem sc_basis_poly : FnScope ["degree", "knots", "index", "place", "found", "low", "high", "part", "line"] ["degree", "knots", "index", "place"] (defScope s_basis_poly) := ⟨rfl, rfl, rfl, by decide +kernel, rfl, by decide +kernel, by decide +kernel⟩
abbrev n_need_spline : List Str := ["value", "degree", "knots", "row"]
theorem sc_need_spline : FnScope ["value", "degree", "knots", "row"] ["value"] (defScope s_need_spline) := ⟨rfl, rfl, rfl, by decide +kernel, rfl, by decide +kernel, by decide +kernel⟩
abbrev n_is_inner : List Str := ["spline", "x"]
theorem sc_is_inner : FnScope ["spline", "x"] ["spline", "x"] (defScope s_is_inner) := ⟨rfl, rfl, rfl, by decide +kernel, rfl, by decide +kernel, by decide +kernel⟩
abbrev n_need_inner : List Str := ["spline", "x"]
theorem sc_need_inner : FnScope ["spline", "x"] ["spline", "x"] (defScope s_need_inner) := ⟨rfl, rfl, rfl, by decide +kernel, rfl, by decide +kernel, by decide +kernel⟩
abbrev n_span_of : List Str := ["knots", "x", "found", "place"]
theorem sc_span_of : FnScope ["knots", "x", "found", "place"] ["knots", "x"] (defScope s_span_of) := ⟨rfl, rfl, rfl, by decide +kernel, rfl, by decide +kernel, by decide +kernel⟩
abbrev n_pieces_of : List Str := ["spline", "degree", "knots", "row", "found", "place", "poly", "index"]
theorem sc_pieces_of : FnScope ["spline", "degree", "knots", "row", "found", "place", "poly", "index"] ["spline"] (defScope s_pieces_of) := ⟨rfl, rfl, rfl, by decide +kernel, rfl, by decide +kernel, by decide +kernel⟩
abbrev n_spline_pieces : List Str := ["spline"]
theorem sc_spline_pieces : FnScope ["spline"] ["spline"] (defScope s_spline_pieces) := ⟨rfl, rfl, rfl, by decide +kernel, rfl, by decide +kernel, by decide +kernel⟩
abbrev n_poly_over : List Str := ["pieces", "low", "interval", "poly"]
theorem sc_poly_over : FnScope ["pieces", "low", "interval", "poly"] ["pieces", "low"] (defScope s_poly_over) := ⟨rfl, rfl, rfl, by decide +kernel, rfl, by decide +kernel, by decide +kernel⟩
abbrev n_row_from : List Str := ["pieces", "degree", "knots", "found", "index", "place", "at"]
theorem sc_row_from : FnScope ["pieces", "degree", "knots", "found", "index", "place", "at"] ["pieces", "degree", "knots"] (defScope s_row_from) := ⟨rfl, rfl, rfl, by decide +kernel, rfl, by decide +kernel, by decide +kernel⟩
abbrev n_with_knot : List Str := ["spline", "x", "degree", "knots", "row", "span", "found", "index", "part"]
theorem sc_with_knot : FnScope ["spline", "x", "degree", "knots", "row", "span", "found", "index", "part"] ["spline", "x"] (defScope s_with_knot) := ⟨rfl, rfl, rfl, by decide +kernel, rfl, by decide +kernel, by decide +kernel⟩
abbrev n_inserted : List Str := ["spline", "x", "degree", "knots", "row"]
theorem sc_inserted : FnScope ["spline", "x", "degree", "knots", "row"] ["spline", "x"] (defScope s_inserted) := ⟨rfl, rfl, rfl, by decide +kernel, rfl, by decide +kernel, by decide +kernel⟩
abbrev n_order_at : List Str := ["one", "other", "degree", "x", "order"]
theorem sc_order_at : FnScope ["one", "other", "degree", "x", "order"] ["one", "other", "degree", "x"] (defScope s_order_at) := ⟨rfl, rfl, rfl, by decide +kernel, rfl, by decide +kernel, by decide +kernel⟩
abbrev n_smoothness_of : List Str := ["pieces", "degree", "x", "place"]
theorem sc_smoothness_of : FnScope ["pieces", "degree", "x", "place"] ["pieces", "degree", "x"] (defScope s_smoothness_of) := ⟨rfl, rfl, rfl, by decide +kernel, rfl, by decide +kernel, by decide +kernel⟩
abbrev n_smoothness : List Str := ["spline", "x"]
theorem sc_smoothness : FnScope ["spline", "x"] ["spline", "x"] (defScope s_smoothness) := ⟨rfl, rfl, rfl, by decide +kernel, rfl, by decide +kernel, by decide +kernel⟩
abbrev n_removed : List Str := ["spline", "x", "degree", "knots", "row", "pieces", "place", "left"]
theorem sc_removed : FnScope ["spline", "x", "degree", "knots", "row", "pieces", "place", "left"] ["spline", "x"] (defScope s_removed) := ⟨rfl, rfl, rfl, by decide +kernel, rfl, by decide +kernel, by decide +kernel⟩
abbrev n_l_taken : List Str := ["_law_row", "_law_many", "_law_found", "_law_cell"]
theorem sc_l_taken : FnScope ["_law_row", "_law_many", "_law_found", "_law_cell"] ["_law_row", "_law_many"] (defScope s_l_taken) := ⟨rfl, rfl, rfl, by decide +kernel, rfl, by decide +kernel, by decide +kernel⟩
abbrev n_l_pick : List Str := ["_law_row", "_law_things"]
theorem sc_l_pick : FnScope ["_law_row", "_law_things"] ["_law_row", "_law_things"] (defScope s_l_pick) := ⟨rfl, rfl, rfl, by decide +kernel, rfl, by decide +kernel, by decide +kernel⟩
abbrev n_l_alike : List Str := ["_law_found", "_law_due", "_law_k"]
theorem sc_l_alike : FnScope ["_law_found", "_law_due", "_law_k"] ["_law_found", "_law_due"] (defScope s_l_alike) := ⟨rfl, rfl, rfl, by decide +kernel, rfl, by decide +kernel, by decide +kernel⟩
abbrev n_l_made : List Str := ["_law_top", "_law_low", "_law_one", "_law_other", "_law_turn"]
theorem sc_l_made : FnScope ["_law_top", "_law_low", "_law_one", "_law_other", "_law_turn"] ["_law_top", "_law_low"] (defScope s_l_made) := ⟨rfl, rfl, rfl, by decide +kernel, rfl, by decide +kernel, by decide +kernel⟩
abbrev n_l_plus : List Str := ["_law_one", "_law_other"]
theorem sc_l_plus : FnScope ["_law_one", "_law_other"] ["_law_one", "_law_other"] (defScope s_l_plus) := ⟨rfl, rfl, rfl, by decide +kernel, rfl, by decide +kernel, by decide +kernel⟩
abbrev n_l_minus : List Str := ["_law_one", "_law_other"]
theorem sc_l_minus : FnScope ["_law_one", "_law_other"] ["_law_one", "_law_other"] (defScope s_l_minus) := ⟨rfl, rfl, rfl, by decide +kernel, rfl, by decide +kernel, by decide +kernel⟩
abbrev n_l_times : List Str := ["_law_one", "_law_other"]
theorem sc_l_times : FnScope ["_law_one", "_law_other"] ["_law_one", "_law_other"] (defScope s_l_times) := ⟨rfl, rfl, rfl, by decide +kernel, rfl, by decide +kernel, by decide +kernel⟩
abbrev n_l_over : List Str := ["_law_one", "_law_other"]
theorem sc_l_over : FnScope ["_law_one", "_law_other"] ["_law_one", "_law_other"] (defScope s_l_over) := ⟨rfl, rfl, rfl, by decide +kernel, rfl, by decide +kernel, by decide +kernel⟩
abbrev n_l_below : List Str := ["_law_one", "_law_other"]
theorem sc_l_below : FnScope ["_law_one", "_law_other"] ["_law_one", "_law_other"] (defScope s_l_below) := ⟨rfl, rfl, rfl, by decide +kernel, rfl, by decide +kernel, by decide +kernel⟩
abbrev n_l_sum : List Str := ["_law_some", "_law_found", "_law_one"]
theorem sc_l_sum : FnScope ["_law_some", "_law_found", "_law_one"] ["_law_some"] (defScope s_l_sum) := ⟨rfl, rfl, rfl, by decide +kernel, rfl, by decide +kernel, by decide +kernel⟩
abbrev n_l_draw : List Str := ["_law_row", "_law_low"]
theorem sc_l_draw : FnScope ["_law_row", "_law_low"] ["_law_row"] (defScope s_l_draw) := ⟨rfl, rfl, rfl, by decide +kernel, rfl, by decide +kernel, by decide +kernel⟩
abbrev n_l_at : List Str := ["_law_poly", "_law_x", "_law_found", "_law_one"]
theorem sc_l_at : FnScope ["_law_poly", "_law_x", "_law_found", "_law_one"] ["_law_poly", "_law_x"] (defScope s_l_at) := ⟨rfl, rfl, rfl, by decide +kernel, rfl, by decide +kernel, by decide +kernel⟩
abbrev n_l_p_slope : List Str := ["_law_poly", "_law_power"]
theorem sc_l_p_slope : FnScope ["_law_poly", "_law_power"] ["_law_poly"] (defScope s_l_p_slope) := ⟨rfl, rfl, rfl, by decide +kernel, rfl, by decide +kernel, by decide +kernel⟩
abbrev n_l_slopes : List Str := ["_law_poly", "_law_many", "_law_found", "_law_turn"]
theorem sc_l_slopes : FnScope ["_law_poly", "_law_many", "_law_found", "_law_turn"] ["_law_poly", "_law_many"] (defScope s_l_slopes) := ⟨rfl, rfl, rfl, by decide +kernel, rfl, by decide +kernel, by decide +kernel⟩
abbrev n_l_middle : List Str := ["_law_one", "_law_other", "_law_part"]
theorem sc_l_middle : FnScope ["_law_one", "_law_other", "_law_part"] ["_law_one", "_law_other", "_law_part"] (defScope s_l_middle) := ⟨rfl, rfl, rfl, by decide +kernel, rfl, by decide +kernel, by decide +kernel⟩
abbrev n_l_once : List Str := ["_law_some", "_law_found", "_law_one"]
theorem sc_l_once : FnScope ["_law_some", "_law_found", "_law_one"] ["_law_some"] (defScope s_l_once) := ⟨rfl, rfl, rfl, by decide +kernel, rfl, by decide +kernel, by decide +kernel⟩
abbrev n_l_sorted : List Str := ["_law_some", "_law_found", "_law_one", "_law_at_here"]
theorem sc_l_sorted : FnScope ["_law_some", "_law_found", "_law_one", "_law_at_here"] ["_law_some"] (defScope s_l_sorted) := ⟨rfl, rfl, rfl, by decide +kernel, rfl, by decide +kernel, by decide +kernel⟩
abbrev n_l_basis : List Str := ["_law_degree", "_law_knots", "_law_i", "_law_x", "_law_found", "_law_part"]
theorem sc_l_basis : FnScope ["_law_degree", "_law_knots", "_law_i", "_law_x", "_law_found", "_law_part"] ["_law_degree", "_law_knots", "_law_i", "_law_x"] (defScope s_l_basis) := ⟨rfl, rfl, rfl, by decide +kernel, rfl, by decide +kernel, by decide +kernel⟩
abbrev n_l_spline : List Str := ["_law_row", "_law_most", "_law_degree", "_law_low", "_law_now", "_law_knots", "_law_turn", "_law_at_here"]
theorem sc_l_spline : FnScope ["_law_row", "_law_most", "_law_degree", "_law_low", "_law_now", "_law_knots", "_law_turn", "_law_at_here"] ["_law_row", "_law_most"] (defScope s_l_spline) := ⟨rfl, rfl, rfl, by decide +kernel, rfl, by decide +kernel, by decide +kernel⟩
abbrev n_l_spline_at : List Str := ["_law_spline_here", "_law_x", "_law_degree", "_law_knots", "_law_some", "_law_i"]
theorem sc_l_spline_at : FnScope ["_law_spline_here", "_law_x", "_law_degree", "_law_knots", "_law_some", "_law_i"] ["_law_spline_here", "_law_x"] (defScope s_l_spline_at) := ⟨rfl, rfl, rfl, by decide +kernel, rfl, by decide +kernel, by decide +kernel⟩
abbrev n_l_within : List Str := ["_law_row", "_law_spline_here", "_law_low", "_law_high"]
theorem sc_l_within : FnScope ["_law_row", "_law_spline_here", "_law_low", "_law_high"] ["_law_row", "_law_spline_here"] (defScope s_l_within) := ⟨rfl, rfl, rfl, by decide +kernel, rfl, by decide +kernel, by decide +kernel⟩
abbrev n_l_same : List Str := ["_law_one", "_law_other", "_law_places", "_law_at_here", "_law_many", "_law_step", "_law_x"]
theorem sc_l_same : FnScope ["_law_one", "_law_other", "_law_places", "_law_at_here", "_law_many", "_law_step", "_law_x"] ["_law_one", "_law_other"] (defScope s_l_same) := ⟨rfl, rfl, rfl, by decide +kernel, rfl, by decide +kernel, by decide +kernel⟩
abbrev n_l_fits_spline : List Str := ["_law_value", "_law_degree", "_law_knots", "_law_some"]
theorem sc_l_fits_spline : FnScope ["_law_value", "_law_degree", "_law_knots", "_law_some"] ["_law_value"] (defScope s_l_fits_spline) := ⟨rfl, rfl, rfl, by decide +kernel, rfl, by decide +kernel, by decide +kernel⟩
abbrev n_law : List Str := ["_law_script", "_law_row", "_law_spline_here", "_law_turn", "_law_x", "_law_ends", "_law_degree", "_law_knots", "_law_some", "_law_left", "_law_right", "_law_interval", "_law_poly", "_law_due", "_law_order", "_law_same_here", "_law_found", "_law_at_here"]
theorem sc_law : FnScope ["_law_script", "_law_row", "_law_spline_here", "_law_turn", "_law_x", "_law_ends", "_law_degree", "_law_knots", "_law_some", "_law_left", "_law_right", "_law_interval", "_law_poly", "_law_due", "_law_order", "_law_same_here", "_law_found", "_law_at_here"] ["_law_script"] (defScope s_law) := ⟨rfl, rfl, rfl, by decide +kernel, rfl, by decide +kernel, by decide +kernel⟩
/-- a def of the text as it stands behind the top -/
def DefAt (K : PySem.W.Frag) (mg : Str → Option Value) (x : Str) (st : Stmt) : Prop := ∃ f fd, mg x = some (.ref f) ∧ FnP K x st f fd
/-- what the top leaves -/
structure Top (K : PySem.W.Frag) (mg : Str → Option Value) : Prop where
  d_is_int : DefAt K mg "is_int" s_is_int
  d_is_from : DefAt K mg "is_from" s_is_from
  d_is_ratio : DefAt K mg "is_ratio" s_is_ratio
  d_made : DefAt K mg "made" s_made
  d_plus : DefAt K mg "plus" s_plus
  d_less : DefAt K mg "less" s_less
  d_times : DefAt K mg "times" s_times
  d_over : DefAt K mg "over" s_over
  d_negative : DefAt K mg "negative" s_negative
  d_is_below : DefAt K mg "is_below" s_is_below
  d_between : DefAt K mg "between" s_between
  d_are_ratios : DefAt K mg "are_ratios" s_are_ratios
  d_trimmed : DefAt K mg "trimmed" s_trimmed
  d_at : DefAt K mg "at" s_at
  d_p_plus : DefAt K mg "p_plus" s_p_plus
  d_p_scaled : DefAt K mg "p_scaled" s_p_scaled
  d_p_times : DefAt K mg "p_times" s_p_times
  d_p_slope : DefAt K mg "p_slope" s_p_slope
  d_choose : DefAt K mg "choose" s_choose
  d_symmetric : DefAt K mg "symmetric" s_symmetric
  d_blossom_of : DefAt K mg "blossom_of" s_blossom_of
  d_faults_of : DefAt K mg "faults_of" s_faults_of
  d_basis_poly : DefAt K mg "basis_poly" s_basis_poly
  d_need_spline : DefAt K mg "need_spline" s_need_spline
  d_is_inner : DefAt K mg "is_inner" s_is_inner
  d_need_inner : DefAt K mg "need_inner" s_need_inner
  d_span_of : DefAt K mg "span_of" s_span_of
  d_pieces_of : DefAt K mg "pieces_of" s_pieces_of
  d_spline_pieces : DefAt K mg "spline_pieces" s_spline_pieces
  d_poly_over : DefAt K mg "poly_over" s_poly_over
  d_row_from : DefAt K mg "row_from" s_row_from
  d_with_knot : DefAt K mg "with_knot" s_with_knot
  d_inserted : DefAt K mg "inserted" s_inserted
  d_order_at : DefAt K mg "order_at" s_order_at
  d_smoothness_of : DefAt K mg "smoothness_of" s_smoothness_of
  d_smoothness : DefAt K mg "smoothness" s_smoothness
  d_removed : DefAt K mg "removed" s_removed
  d_l_taken : DefAt K mg "_law_taken" s_l_taken
  d_l_pick : DefAt K mg "_law_pick" s_l_pick
  d_l_alike : DefAt K mg "_law_alike" s_l_alike
  d_l_made : DefAt K mg "_law_made" s_l_made
  d_l_plus : DefAt K mg "_law_plus" s_l_plus
  d_l_minus : DefAt K mg "_law_minus" s_l_minus
  d_l_times : DefAt K mg "_law_times" s_l_times
  d_l_over : DefAt K mg "_law_over" s_l_over
  d_l_below : DefAt K mg "_law_below" s_l_below
  d_l_sum : DefAt K mg "_law_sum" s_l_sum
  d_l_draw : DefAt K mg "_law_draw" s_l_draw
  d_l_at : DefAt K mg "_law_at" s_l_at
  d_l_p_slope : DefAt K mg "_law_p_slope" s_l_p_slope
  d_l_slopes : DefAt K mg "_law_slopes" s_l_slopes
  d_l_middle : DefAt K mg "_law_middle" s_l_middle
  d_l_once : DefAt K mg "_law_once" s_l_once
  d_l_sorted : DefAt K mg "_law_sorted" s_l_sorted
  d_l_basis : DefAt K mg "_law_basis" s_l_basis
  d_l_spline : DefAt K mg "_law_spline" s_l_spline
  d_l_spline_at : DefAt K mg "_law_spline_at" s_l_spline_at
  d_l_within : DefAt K mg "_law_within" s_l_within
  d_l_same : DefAt K mg "_law_same" s_l_same
  d_l_fits_spline : DefAt K mg "_law_fits_spline" s_l_fits_spline
  d_law : DefAt K mg "law" s_law
  b_isinstance : mg "isinstance" = none
  b_len : mg "len" = none
  b_range : mg "range" = none
  b_tuple : mg "tuple" = none
  b_list : mg "list" = none
  b_max : mg "max" = none
  b_abs : mg "abs" = none
  b_int : mg "int" = none
  b_enumerate : mg "enumerate" = none
  b_zip : mg "zip" = none
  b_all : mg "all" = none
  b_bool : mg "bool" = none
  b_str : mg "str" = none
  gcd : mg "gcd" = some (.builtin "math.gcd")
  zero : ∃ z : Addr, mg "ZERO" = some (.ref z) ∧ ∀ H, SqT K H z [.int 0, .int 1]
  one : ∃ z : Addr, mg "ONE" = some (.ref z) ∧ ∀ H, SqT K H z [.int 1, .int 1]
  deg : ∃ t, mg "MOST_DEGREE" = some (.int 4 t)
  kno : ∃ t, mg "MOST_KNOTS" = some (.int 16 t)
theorem top_of {K : PySem.W.Frag} {h : Heap} {mg : Str → Option Value} (X : K.In h) (G : h.Ns mainGlobals mg) (c : SaysX K) : Top K mg := by
  obtain ⟨c, cx⟩ := c
  obtain ⟨x1, x2⟩ := Bool.and_eq_true_iff.mp cx
  obtain ⟨x2, x3⟩ := Bool.and_eq_true_iff.mp x2
  have glo : ∀ {i : Nat} {x : Str}, fa[i]? = some (.glo x) → mg x = some (.ref (He.ga K x)) := fun h => He.glo_ok X G (c.fact _ h)
  have free : ∀ {i : Nat} {x : Str}, fa[i]? = some (.free x) → mg x = none := fun h => He.free_ok X G (c.fact _ h)
  refine ⟨?d0, ?d1, ?d2, ?d3, ?d4, ?d5, ?d6, ?d7, ?d8, ?d9, ?d10, ?d11, ?d12, ?d13, ?d14, ?d15, ?d16, ?d17, ?d18, ?d19, ?d20, ?d21, ?d22, ?d23, ?d24, ?d25, ?d26, ?d27, ?d28, ?d29, ?d30, ?d31, ?d32, ?d33, ?d34, ?d35, ?d36, ?d37, ?d38, ?d39, ?d40, ?d41, ?d42, ?d43, ?d44, ?d45, ?d46, ?d47, ?d48, ?d49, ?d50, ?d51, ?d52, ?d53, ?d54, ?d55, ?d56, ?d57, ?d58, ?d59, ?d60, free (i := 63) rfl, free (i := 64) rfl, free (i := 65) rfl, free (i := 66) rfl, free (i := 67) rfl, free (i := 68) rfl, free (i := 69) rfl, free (i := 70) rfl, free (i := 71) rfl, free (i := 72) rfl, free (i := 73) rfl, free (i := 74) rfl, free (i := 75) rfl, PySem.W.mg_of X G (of_decide_eq_true x1), ⟨_, glo (i := 0) rfl, fun H => He.tupB_ok x2 H⟩, ⟨_, glo (i := 1) rfl, fun H => He.tupB_ok x3 H⟩, He.int_ok X G (c.fact 76 rfl), He.int_ok X G (c.fact 77 rfl)⟩
  case d0 => exact let ⟨fd, F⟩ := c.def_ 0 (d := d_is_int) rfl; ⟨_, fd, glo (i := 2) rfl, F⟩
  case d1 => exact let ⟨fd, F⟩ := c.def_ 1 (d := d_is_from) rfl; ⟨_, fd, glo (i := 3) rfl, F⟩
  case d2 => exact let ⟨fd, F⟩ := c.def_ 2 (d := d_is_ratio) rfl; ⟨_, fd, glo (i := 4) rfl, F⟩
  case d3 => exact let ⟨fd, F⟩ := c.def_ 3 (d := d_made) rfl; ⟨_, fd, glo (i := 5) rfl, F⟩
  case d4 => exact let ⟨fd, F⟩ := c.def_ 4 (d := d_plus) rfl; ⟨_, fd, glo (i := 6) rfl, F⟩
  case d5 => exact let ⟨fd, F⟩ := c.def_ 5 (d := d_less) rfl; ⟨_, fd, glo (i := 7) rfl, F⟩
  case d6 => exact let ⟨fd, F⟩ := c.def_ 6 (d := d_times) rfl; ⟨_, fd, glo (i := 8) rfl, F⟩
  case d7 => exact let ⟨fd, F⟩ := c.def_ 7 (d := d_over) rfl; ⟨_, fd, glo (i := 9) rfl, F⟩
  case d8 => exact let ⟨fd, F⟩ := c.def_ 8 (d := d_negative) rfl; ⟨_, fd, glo (i := 10) rfl, F⟩
  case d9 => exact let ⟨fd, F⟩ := c.def_ 9 (d := d_is_below) rfl; ⟨_, fd, glo (i := 11) rfl, F⟩
  case d10 => exact let ⟨fd, F⟩ := c.def_ 10 (d := d_between) rfl; ⟨_, fd, glo (i := 12) rfl, F⟩
  case d11 => exact let ⟨fd, F⟩ := c.def_ 11 (d := d_are_ratios) rfl; ⟨_, fd, glo (i := 13) rfl, F⟩
  case d12 => exact let ⟨fd, F⟩ := c.def_ 12 (d := d_trimmed) rfl; ⟨_, fd, glo (i := 14) rfl, F⟩
  case d13 => exact let ⟨fd, F⟩ := c.def_ 13 (d := d_at) rfl; ⟨_, fd, glo (i := 15) rfl, F⟩
  case d14 => exact let ⟨fd, F⟩ := c.def_ 14 (d := d_p_plus) rfl; ⟨_, fd, glo (i := 16) rfl, F⟩
  case d15 => exact let ⟨fd, F⟩ := c.def_ 15 (d := d_p_scaled) rfl; ⟨_, fd, glo (i := 17) rfl, F⟩
  case d16 => exact let ⟨fd, F⟩ := c.def_ 16 (d := d_p_times) rfl; ⟨_, fd, glo (i := 18) rfl, F⟩
  case d17 => exact let ⟨fd, F⟩ := c.def_ 17 (d := d_p_slope) rfl; ⟨_, fd, glo (i := 19) rfl, F⟩
  case d18 => exact let ⟨fd, F⟩ := c.def_ 18 (d := d_choose) rfl; ⟨_, fd, glo (i := 20) rfl, F⟩
  case d19 => exact let ⟨fd, F⟩ := c.def_ 19 (d := d_symmetric) rfl; ⟨_, fd, glo (i := 21) rfl, F⟩
  case d20 => exact let ⟨fd, F⟩ := c.def_ 20 (d := d_blossom_of) rfl; ⟨_, fd, glo (i := 22) rfl, F⟩
  case d21 => exact let ⟨fd, F⟩ := c.def_ 21 (d := d_faults_of) rfl; ⟨_, fd, glo (i := 23) rfl, F⟩
  case d22 => exact let ⟨fd, F⟩ := c.def_ 22 (d := d_basis_poly) rfl; ⟨_, fd, glo (i := 24) rfl, F⟩
  case d23 => exact let ⟨fd, F⟩ := c.def_ 23 (d := d_need_spline) rfl; ⟨_, fd, glo (i := 25) rfl, F⟩
  case d24 => exact let ⟨fd, F⟩ := c.def_ 24 (d := d_is_inner) rfl; ⟨_, fd, glo (i := 26) rfl, F⟩
  case d25 => exact let ⟨fd, F⟩ := c.def_ 25 (d := d_need_inner) rfl; ⟨_, fd, glo (i := 27) rfl, F⟩
  case d26 => exact let ⟨fd, F⟩ := c.def_ 26 (d := d_span_of) rfl; ⟨_, fd, glo (i := 28) rfl, F⟩
  case d27 => exact let ⟨fd, F⟩ := c.def_ 27 (d := d_pieces_of) rfl; ⟨_, fd, glo (i := 29) rfl, F⟩
  case d28 => exact let ⟨fd, F⟩ := c.def_ 28 (d := d_spline_pieces) rfl; ⟨_, fd, glo (i := 30) rfl, F⟩
  case d29 => exact let ⟨fd, F⟩ := c.def_ 29 (d := d_poly_over) rfl; ⟨_, fd, glo (i := 31) rfl, F⟩
  case d30 => exact let ⟨fd, F⟩ := c.def_ 30 (d := d_row_from) rfl; ⟨_, fd, glo (i := 32) rfl, F⟩
  case d31 => exact let ⟨fd, F⟩ := c.def_ 31 (d := d_with_knot) rfl; ⟨_, fd, glo (i := 33) rfl, F⟩
  case d32 => exact let ⟨fd, F⟩ := c.def_ 32 (d := d_inserted) rfl; ⟨_, fd, glo (i := 34) rfl, F⟩
  case d33 => exact let ⟨fd, F⟩ := c.def_ 33 (d := d_order_at) rfl; ⟨_, fd, glo (i := 35) rfl, F⟩
  case d34 => exact let ⟨fd, F⟩ := c.def_ 34 (d := d_smoothness_of) rfl; ⟨_, fd, glo (i := 36) rfl, F⟩
  case d35 => exact let ⟨fd, F⟩ := c.def_ 35 (d := d_smoothness) rfl; ⟨_, fd, glo (i := 37) rfl, F⟩
  case d36 => exact let ⟨fd, F⟩ := c.def_ 36 (d := d_removed) rfl; ⟨_, fd, glo (i := 38) rfl, F⟩
  case d37 => exact let ⟨fd, F⟩ := c.def_ 37 (d := d_l_taken) rfl; ⟨_, fd, glo (i := 39) rfl, F⟩
  case d38 => exact let ⟨fd, F⟩ := c.def_ 38 (d := d_l_pick) rfl; ⟨_, fd, glo (i := 40) rfl, F⟩
  case d39 => exact let ⟨fd, F⟩ := c.def_ 39 (d := d_l_alike) rfl; ⟨_, fd, glo (i := 41) rfl, F⟩
  case d40 => exact let ⟨fd, F⟩ := c.def_ 40 (d := d_l_made) rfl; ⟨_, fd, glo (i := 42) rfl, F⟩
  case d41 => exact let ⟨fd, F⟩ := c.def_ 41 (d := d_l_plus) rfl; ⟨_, fd, glo (i := 43) rfl, F⟩
  case d42 => exact let ⟨fd, F⟩ := c.def_ 42 (d := d_l_minus) rfl; ⟨_, fd, glo (i := 44) rfl, F⟩
  case d43 => exact let ⟨fd, F⟩ := c.def_ 43 (d := d_l_times) rfl; ⟨_, fd, glo (i := 45) rfl, F⟩
  case d44 => exact let ⟨fd, F⟩ := c.def_ 44 (d := d_l_over) rfl; ⟨_, fd, glo (i := 46) rfl, F⟩
  case d45 => exact let ⟨fd, F⟩ := c.def_ 45 (d := d_l_below) rfl; ⟨_, fd, glo (i := 47) rfl, F⟩
  case d46 => exact let ⟨fd, F⟩ := c.def_ 46 (d := d_l_sum) rfl; ⟨_, fd, glo (i := 48) rfl, F⟩
  case d47 => exact let ⟨fd, F⟩ := c.def_ 47 (d := d_l_draw) rfl; ⟨_, fd, glo (i := 49) rfl, F⟩
  case d48 => exact let ⟨fd, F⟩ := c.def_ 48 (d := d_l_at) rfl; ⟨_, fd, glo (i := 50) rfl, F⟩
  case d49 => exact let ⟨fd, F⟩ := c.def_ 49 (d := d_l_p_slope) rfl; ⟨_, fd, glo (i := 51) rfl, F⟩
  case d50 => exact let ⟨fd, F⟩ := c.def_ 50 (d := d_l_slopes) rfl; ⟨_, fd, glo (i := 52) rfl, F⟩
  case d51 => exact let ⟨fd, F⟩ := c.def_ 51 (d := d_l_middle) rfl; ⟨_, fd, glo (i := 53) rfl, F⟩
  case d52 => exact let ⟨fd, F⟩ := c.def_ 52 (d := d_l_once) rfl; ⟨_, fd, glo (i := 54) rfl, F⟩
  case d53 => exact let ⟨fd, F⟩ := c.def_ 53 (d := d_l_sorted) rfl; ⟨_, fd, glo (i := 55) rfl, F⟩
  case d54 => exact let ⟨fd, F⟩ := c.def_ 54 (d := d_l_basis) rfl; ⟨_, fd, glo (i := 56) rfl, F⟩
  case d55 => exact let ⟨fd, F⟩ := c.def_ 55 (d := d_l_spline) rfl; ⟨_, fd, glo (i := 57) rfl, F⟩
  case d56 => exact let ⟨fd, F⟩ := c.def_ 56 (d := d_l_spline_at) rfl; ⟨_, fd, glo (i := 58) rfl, F⟩
  case d57 => exact let ⟨fd, F⟩ := c.def_ 57 (d := d_l_within) rfl; ⟨_, fd, glo (i := 59) rfl, F⟩
  case d58 => exact let ⟨fd, F⟩ := c.def_ 58 (d := d_l_same) rfl; ⟨_, fd, glo (i := 60) rfl, F⟩
  case d59 => exact let ⟨fd, F⟩ := c.def_ 59 (d := d_l_fits_spline) rfl; ⟨_, fd, glo (i := 61) rfl, F⟩
  case d60 => exact let ⟨fd, F⟩ := c.def_ 60 (d := d_law) rfl; ⟨_, fd, glo (i := 62) rfl, F⟩
end Bc
end
section
set_option Elab.async false
set_option linter.all false
set_option maxRecDepth 100000
set_option maxHeartbeats 4000000
namespace Bc
open PySem PySem.Spec PyProof.Rows L2
/-! ### ratios, rows, polynomials in the heap -/
def rv (q : Rat) : List V := [.int q.num, .int (q.den : Int)]
def Rt (K : PySem.W.Frag) (H : Hp) (v : V) (q : Rat) : Prop := ∃ a, v = .ref a ∧ SqT K H a (rv q)
abbrev RtL (K : PySem.W.Frag) (H : Hp) : List V → List Rat → Prop := Paired (Rt K H)
/-- a tuple of ratios -/
def Pol (K : PySem.W.Frag) (H : Hp) (v : V) (p : List Rat) : Prop := ∃ a vs, v = .ref a ∧ SqT K H a vs ∧ RtL K H vs p
/-- a list of ratios -/
def Lis (K : PySem.W.Frag) (H : Hp) (v : V) (p : List Rat) : Prop := ∃ a vs, v = .ref a ∧ SqL K H a vs ∧ RtL K H vs p
theorem seqT_keep {K : PySem.W.Frag} {H H' : Hp} {a : Addr} {xs : List V} (e : Same H H') (h : SqT K H a xs) : SqT K H' a xs := by
  rcases h with (h | ⟨o, h⟩) | h
  · exact .inl (.inl (e _ _ h))
  · exact .inl (.inr ⟨o, e _ _ h⟩)
  · exact .inr h
section
variable {K : PySem.W.Frag} {H H' : Hp} {v : V} {q : Rat} {vs : List V} {p : List Rat}
theorem Rt.keep (h : Rt K H v q) (e : Same H H') : Rt K H' v q := let ⟨a, e1, h1⟩ := h; ⟨a, e1, seqT_keep e h1⟩
theorem rtl_keep (h : RtL K H vs p) (e : Same H H') : RtL K H' vs p := Paired.mapP h fun _ _ x => x.keep e
theorem Pol.keep (h : Pol K H v p) (e : Same H H') : Pol K H' v p := let ⟨a, vs, e1, h1, h2⟩ := h; ⟨a, vs, e1, seqT_keep e h1, rtl_keep h2 e⟩
theorem Lis.keep (h : Lis K H v p) (e : Same H H') : Lis K H' v p := let ⟨a, vs, e1, h1, h2⟩ := h; ⟨a, vs, e1, e.seq h1, rtl_keep h2 e⟩
theorem same_upd {H : Hp} {p : Addr} {o : HO} (h : H p = none) : Same H (upd H p o) := fun b x e => by
  rw [upd_ne (ne_of_none e h)]
  exact e
end
section
variable {α β : Type} {F : α → β → Prop}
theorem pr_get : ∀ {xs : List α} {ys : List β} {i : Nat} {y : β}, Paired F xs ys → ys[i]? = some y → ∃ x, xs[i]? = some x ∧ F x y
  | _, _, _, _, .nil, e => by simp at e
  | _, _, 0, _, .cons r _, e => by
    simp at e; subst e; exact ⟨_, rfl, r⟩
  | _, _, i + 1, y, .cons _ t, e => by
    obtain ⟨x, h1, h2⟩ := pr_get (i := i) (y := y) t (by simpa using e)
    exact ⟨x, by simpa using h1, h2⟩
theorem pr_get2 : ∀ {xs : List α} {ys : List β} {i : Nat} {x : α}, Paired F xs ys → xs[i]? = some x → ∃ y, ys[i]? = some y ∧ F x y
  | _, _, _, _, .nil, e => by simp at e
  | _, _, 0, _, .cons r _, e => by
    simp at e; subst e; exact ⟨_, rfl, r⟩
  | _, _, i + 1, x, .cons _ t, e => by
    obtain ⟨y, h1, h2⟩ := pr_get2 (i := i) (x := x) t (by simpa using e)
    exact ⟨y, by simpa using h1, h2⟩
theorem pr_append : ∀ {xs xs' : List α} {ys ys' : List β}, Paired F xs ys → Paired F xs' ys' → Paired F (xs ++ xs') (ys ++ ys')
  | _, _, _, _, .nil, s => s
  | _, _, _, _, .cons r t, s => .cons r (pr_append t s)
theorem pr_take : ∀ {xs : List α} {ys : List β} (n : Nat), Paired F xs ys → Paired F (xs.take n) (ys.take n)
  | _, _, 0, _ => .nil
  | _, _, _ + 1, .nil => .nil
  | _, _, n + 1, .cons r t => .cons r (pr_take n t)
theorem pr_drop : ∀ {xs : List α} {ys : List β} (n : Nat), Paired F xs ys → Paired F (xs.drop n) (ys.drop n)
  | _, _, 0, h => h
  | _, _, _ + 1, .nil => .nil
  | _, _, n + 1, .cons _ t => pr_drop n t
theorem pr_rev {xs : List α} {ys : List β} (h : Paired F xs ys) : Paired F xs.reverse ys.reverse := by
  induction h with
  | nil => exact .nil
  | cons r _ ih => rw [List.reverse_cons, List.reverse_cons]; exact pr_append ih (.cons r .nil)
theorem pr_set : ∀ {xs : List α} {ys : List β} {x : α} {y : β} (i : Nat), Paired F xs ys → F x y → Paired F (xs.set i x) (ys.set i y)
  | _, _, _, _, _, .nil, _ => .nil
  | _, _, _, _, 0, .cons _ t, r => .cons r t
  | _, _, _, _, i + 1, .cons q t, r => .cons q (pr_set i t r)
theorem pr_rep {x : α} {y : β} (h : F x y) : ∀ n : Nat, Paired F (List.replicate n x) (List.replicate n y)
  | 0 => .nil
  | n + 1 => .cons h (pr_rep h n)
end
/-! ### what is wanted of an answer -/
def WR (K : PySem.W.Frag) (H : Hp) (Q : VK) (q : Rat) : Prop := ∀ H' v, Same H H' → Rt K H' v q → Q v H'
def WP (K : PySem.W.Frag) (H : Hp) (Q : VK) (p : List Rat) : Prop := ∀ H' v, Same H H' → Pol K H' v p → Q v H'
/-! ### defs by name -/
def Has (P : Program) (w : World) (K : PySem.W.Frag) (mg : Str → Option Value) (base : Heap) (k : Nat) (x : Str) (ps : List Str) (sp : Sp) : Prop :=
  ∃ f fd, mg x = some (.ref f) ∧ PySem.W.keepIn K (.ref f) = true ∧ Binds K fd ps [] ∧ FnOk P w K mg base CX0 k f fd ps sp
section
variable {P : Program} {w : World} {K : PySem.W.Frag} {mg : Str → Option Value} {base : Heap}
theorem mk_has {k : Nat} {x : Str} {st : Stmt} {N ps : List Str} {sp : Sp} (D : DefAt K mg x st) (S : FnScope N ps (defScope st))
    (hb : ∀ (kV doc pm : Value) (an : Option Addr) (cdv ct : Value) (us : List Value), us.length = ps.length → bindArgs (PySem.W.fnOf x x (defArgs st) (defBody st) (defScope st) .none kV doc pm an cdv ct) ⟨us, []⟩ = pure (ps.zip us))
    (len : ∀ vs H Q E, sp vs H Q E → vs.length = ps.length)
    (hbody : ∀ (f : Addr) (cdv : Value) (A : Around) (outer : List Env) (s : Shared) (H : Hp) (vs : List V) (Q : VK) (E : XK), Room k (A.deeper (envOfC x (defScope st) s.heap.objs.size f cdv)) → sp vs H Q E →
      ∃ t, PSs (cxOf CX0 P w K mg base N x (defScope st) f cdv A outer s H E).nox (defBody st) t ∧ t { nx := fun _ H' => Q .non H', rt := Q } (start N vs) H) : Has P w K mg base (k + 1) x ps sp := by
  obtain ⟨f, fd, m, F⟩ := D
  refine ⟨f, fd, m, F.kp, F.bindsN hb, F.ok S len fun cdv A outer s H vs Q E hr h => ?_⟩
  obtain ⟨t, h1, h2⟩ := hbody f cdv A outer s H vs Q E hr h
  exact ⟨t, h1.nox, h2⟩
theorem Has.mono {j k : Nat} {x : Str} {ps : List Str} {sp : Sp} (h : Has P w K mg base j x ps sp) (hj : j ≤ k) : Has P w K mg base k x ps sp :=
  let ⟨f, fd, m, kp, b, G⟩ := h; ⟨f, fd, m, kp, b, G.mono hj⟩
end
theorem pf {X : Cx} {k : Nat} {x : Str} {ps : List Str} {sp : Sp} {e : Expr} {es : List Expr} {t : TA} {p pos : Pos} (h : Has X.prog X.w X.K X.mg X.base k x ps sp) (hr : Room k X.A) (ha : PA X (e :: es) t) (hg : Gl X x := by rfl) (hdb : (x == ("__debug__" : Str)) = false := by decide)
    (he : starEach (e :: es) X.env = (false, eval e X.env) :: starEach es X.env := by rfl) (hpl : (backTo pos (starEach es X.env)).any (·.1) = false := by rfl) :
    PE X (.Call (.Name x p) (e :: es) [] pos) (tCall sp [] E0 t) := let ⟨f, fd, m, kp, b, G⟩ := h; pe_call G hr hg m kp b .nil pass0 ha hdb he hpl
/-- two, three arguments -/
abbrev a1 {X : Cx} {a : Expr} {ta : TE} (h : PE X a ta) (hs : starEach (a :: []) X.env = (false, eval a X.env) :: starEach [] X.env := by rfl) := pa_cons h pa_nil hs
/-- integers -/
abbrev Vi : Int → V := V.int
theorem rv_0 (q : Rat) : atI (rv q) 0 = some (.int q.num) := atI_nat (j := 0) rfl
theorem rv_1 (q : Rat) : atI (rv q) 1 = some (.int (q.den : Int)) := atI_nat (j := 1) rfl
/-! ### the ratios of the program -/
section
variable {P : Program} {w : World} {K : PySem.W.Frag} {mg : Str → Option Value} {base : Heap}
def spMade (K : PySem.W.Frag) : Sp := fun vs H Q _ => ∃ n d : Int, vs = [.int n, .int d] ∧ 0 < d ∧ d.natAbs < 2 ^ 8000 ∧ WR K H Q ((n : Rat) / (d : Rat))
theorem gcd_lt {n d : Int} {k : Nat} (hd : 0 < d) (h : d.natAbs < 2 ^ k) : Nat.gcd n.natAbs d.natAbs < 2 ^ k := Nat.lt_of_le_of_lt (Nat.le_of_dvd (by omega) (Nat.gcd_dvd_right _ _)) h
theorem gcd_pos' {n d : Int} (hd : 0 < d) : 0 < Nat.gcd n.natAbs d.natAbs := Nat.gcd_pos_of_pos_right _ (by omega)
theorem ok_made (T : Top K mg) : Has P w K mg base 1 "made" ["top", "low"] (spMade K) := by
  refine mk_has T.d_made sc_made (fun _ _ _ _ _ _ us hl => match us, hl with | [_, _], _ => rfl) (fun vs H Q E h => ?_) (fun f cdv A outer s H vs Q E hr h => ?_)
  · obtain ⟨n, d, rfl, _⟩ := h; rfl
  · obtain ⟨n, d, rfl, hd, hs, hQ⟩ := h
    refine ⟨_, pss_cons (ps_set (i := 2) sc_made.nd rfl (.inl rfl) (pe_callBfun cr_gcd (by rfl) T.gcd (pa_cons (pv 0) (pa_cons (pv 1) pa_nil))))
      (pss_cons (ps_if (pt_cmpR op_lt (pv 1) pe_int (nomark _)) (pss_one ps_never) pss_nil)
      (pss_one (ps_ret (pe_tup (pa_cons (pe_op op_fdivW (pv 0) (pv 2)) (pa_cons (pe_op op_fdivW (pv 1) (pv 2)) pa_nil)))))), ?_⟩
    have g1 := gcd_lt (n := n) hd hs
    have g2 := gcd_pos' (n := n) hd
    have e := mk_parts n d hd
    refine ⟨.int n, rfl, .int d, rfl, n, d, rfl, .int d, rfl, d, 0, rfl, rfl, _, rfl, ?_⟩
    rw [decide_eq_false (show ¬ d < 0 by omega)]
    refine iteF ⟨.int n, rfl, _, rfl, n, _, rfl, rfl, wide_div (b := 8000) (by omega) (by rw [Int.natAbs_natCast]; exact g1) (by decide) (by decide), .int d, rfl, _, rfl, d, _, rfl, rfl, wide_div (b := 8000) (by omega) (by rw [Int.natAbs_natCast]; exact g1) (by decide) (by decide), (by show 2 ≤ sizeLine; decide), fun p hp => ?_⟩
    refine hQ _ _ (same_upd hp) ⟨p, rfl, SqT.of ?_⟩
    rw [upd_same]
    unfold rv
    rw [e.1, e.2]
end
end Bc
end
section
set_option Elab.async false
set_option linter.all false
set_option maxRecDepth 100000
set_option maxHeartbeats 4000000
set_option exponentiation.threshold 200000
namespace Bc
open PySem PySem.Spec PyProof.Rows L2
section
variable {P : Program} {w : World} {K : PySem.W.Frag} {mg : Str → Option Value} {base : Heap}
/-- items 0 and 1 of a ratio in slot i -/
abbrev ix (i : Nat) {X : Cx} {x : Str} {k : Nat} {z : Int} {p1 p2 p3 : Pos} (hN : X.N[i]? = some x := by rfl) (hv : Vis X.env.scope x := by first | exact Or.inl rfl | exact Or.inr (Or.inl rfl) | exact Or.inr (Or.inr rfl)) (hd : (x == ("__debug__" : Str)) = false := by decide)
    (hcd : (x == ("__classdict__" : Str)) = false := by decide) : PE X (.Subscript (.Name x p1) (.Constant (.int z) k p2) p3) (tOp (rIxT X.K) (tVar i) (tC (.int z))) := pe_ix ix_tup (pv i hN hv hd hcd) pe_int (fun _ _ => rfl)
theorem sm_lt {a : Rat} (h : Sm a) : a.num.natAbs < 2 ^ 100000 ∧ a.den < 2 ^ 2400 := ⟨h.2, h.1⟩
theorem mul_nn {a b : Rat} (ha : Sm a) (hb : Sm b) : CMulX a.num b.num := mulx_ok ha.2 hb.2 (by decide)
theorem mul_nd {a b : Rat} (ha : Sm a) (hb : Sm b) : CMulX a.num (b.den : Int) := mulx_ok ha.2 (by rw [Int.natAbs_natCast]; exact hb.1) (by decide)
theorem mul_dn {a b : Rat} (ha : Sm a) (hb : Sm b) : CMulX (a.den : Int) b.num := mulx_ok (by rw [Int.natAbs_natCast]; exact ha.1) hb.2 (by decide)
theorem mul_dd {a b : Rat} (ha : Sm a) (hb : Sm b) : CMulX (a.den : Int) (b.den : Int) := mulx_ok (by rw [Int.natAbs_natCast]; exact ha.1) (by rw [Int.natAbs_natCast]; exact hb.1) (by decide)
theorem dd_pos (a b : Rat) : 0 < (a.den : Int) * (b.den : Int) := Int.mul_pos (by have := a.den_pos; omega) (by have := b.den_pos; omega)
theorem dd_lt {a b : Rat} (ha : Sm a) (hb : Sm b) : ((a.den : Int) * (b.den : Int)).natAbs < 2 ^ 4800 := by
  have := wide_lt (i := (a.den : Int)) (j := (b.den : Int)) (a := 2400) (b := 2400) (by rw [Int.natAbs_natCast]; exact ha.1) (by rw [Int.natAbs_natCast]; exact hb.1)
  exact this
theorem dn_pos (a : Rat) {b : Rat} (h : 0 < b) : 0 < (a.den : Int) * b.num := Int.mul_pos (by have := a.den_pos; omega) (num_pos h)
theorem lt_48 {n : Nat} (h : n < 2 ^ 4800) : n < 2 ^ 8000 := Nat.lt_of_lt_of_le h (Nat.pow_le_pow_right (by decide) (by decide))
/-- two small ratios -/
def sp2 (K : PySem.W.Frag) (f : Rat → Rat → Rat) : Sp := fun vs H Q _ => ∃ u v a b, vs = [u, v] ∧ Rt K H u a ∧ Rt K H v b ∧ Sm a ∧ Sm b ∧ WR K H Q (f a b)
theorem sp2_len {f : Rat → Rat → Rat} : ∀ vs H Q E, sp2 K f vs H Q E → vs.length = 2 := fun vs H Q E h => by obtain ⟨u, v, a, b, rfl, _⟩ := h; rfl
theorem ok_plus (T : Top K mg) : Has P w K mg base 2 "plus" ["one", "other"] (sp2 K fun a b => a + b) := by
  refine mk_has T.d_plus sc_plus (fun _ _ _ _ _ _ us hl => match us, hl with | [_, _], _ => rfl) sp2_len (fun f cdv A outer s H vs Q E hr h => ?_)
  obtain ⟨u, v, a, b, rfl, ⟨p, rfl, hp⟩, ⟨q, rfl, hq⟩, sa, sb, hQ⟩ := h
  refine ⟨_, pss_one (ps_ret (pf (ok_made T) hr (pa_cons (pe_op op_add (pe_op op_mulX (ix 0) (ix 1)) (pe_op op_mulX (ix 1) (ix 0))) (pa_cons (pe_op op_mulX (ix 0) (ix 1)) pa_nil)))), ?_⟩
  refine ⟨_, rfl, p, _, 0, _, rfl, rfl, hp, rv_0 a, _, rfl, q, _, 1, _, rfl, rfl, hq, rv_1 b, _, _, rfl, rfl, mul_nd sa sb, _, rfl, q, _, 0, _, rfl, rfl, hq, rv_0 b, _, rfl, p, _, 1, _, rfl, rfl, hp, rv_1 a, _, _, rfl, rfl, mul_nd sb sa, _, _, rfl, rfl,
    _, rfl, p, _, 1, _, rfl, rfl, hp, rv_1 a, _, rfl, q, _, 1, _, rfl, rfl, hq, rv_1 b, _, _, rfl, rfl, mul_dd sa sb, _, _, rfl, dd_pos a b, lt_48 (dd_lt sa sb), ?_⟩
  rw [q_add]; exact hQ
theorem ok_less (T : Top K mg) : Has P w K mg base 2 "less" ["one", "other"] (sp2 K fun a b => a - b) := by
  refine mk_has T.d_less sc_less (fun _ _ _ _ _ _ us hl => match us, hl with | [_, _], _ => rfl) sp2_len (fun f cdv A outer s H vs Q E hr h => ?_)
  obtain ⟨u, v, a, b, rfl, ⟨p, rfl, hp⟩, ⟨q, rfl, hq⟩, sa, sb, hQ⟩ := h
  refine ⟨_, pss_one (ps_ret (pf (ok_made T) hr (pa_cons (pe_op op_sub (pe_op op_mulX (ix 0) (ix 1)) (pe_op op_mulX (ix 1) (ix 0))) (pa_cons (pe_op op_mulX (ix 0) (ix 1)) pa_nil)))), ?_⟩
  refine ⟨_, rfl, p, _, 0, _, rfl, rfl, hp, rv_0 a, _, rfl, q, _, 1, _, rfl, rfl, hq, rv_1 b, _, _, rfl, rfl, mul_nd sa sb, _, rfl, q, _, 0, _, rfl, rfl, hq, rv_0 b, _, rfl, p, _, 1, _, rfl, rfl, hp, rv_1 a, _, _, rfl, rfl, mul_nd sb sa, _, _, rfl, rfl,
    _, rfl, p, _, 1, _, rfl, rfl, hp, rv_1 a, _, rfl, q, _, 1, _, rfl, rfl, hq, rv_1 b, _, _, rfl, rfl, mul_dd sa sb, _, _, rfl, dd_pos a b, lt_48 (dd_lt sa sb), ?_⟩
  rw [q_sub]; exact hQ
theorem ok_times (T : Top K mg) : Has P w K mg base 2 "times" ["one", "other"] (sp2 K fun a b => a * b) := by
  refine mk_has T.d_times sc_times (fun _ _ _ _ _ _ us hl => match us, hl with | [_, _], _ => rfl) sp2_len (fun f cdv A outer s H vs Q E hr h => ?_)
  obtain ⟨u, v, a, b, rfl, ⟨p, rfl, hp⟩, ⟨q, rfl, hq⟩, sa, sb, hQ⟩ := h
  refine ⟨_, pss_one (ps_ret (pf (ok_made T) hr (pa_cons (pe_op op_mulX (ix 0) (ix 1)) (pa_cons (pe_op op_mulX (ix 0) (ix 1)) pa_nil)))), ?_⟩
  refine ⟨_, rfl, p, _, 0, _, rfl, rfl, hp, rv_0 a, _, rfl, q, _, 0, _, rfl, rfl, hq, rv_0 b, _, _, rfl, rfl, mul_nn sa sb,
    _, rfl, p, _, 1, _, rfl, rfl, hp, rv_1 a, _, rfl, q, _, 1, _, rfl, rfl, hq, rv_1 b, _, _, rfl, rfl, mul_dd sa sb, _, _, rfl, dd_pos a b, lt_48 (dd_lt sa sb), ?_⟩
  rw [q_mul]; exact hQ
/-- the divisor above 0 -/
def spOver (K : PySem.W.Frag) : Sp := fun vs H Q _ => ∃ u v a b, vs = [u, v] ∧ Rt K H u a ∧ Rt K H v b ∧ Sm a ∧ Sm b ∧ 0 < b ∧ b.num.natAbs < 2 ^ 2400 ∧ WR K H Q (a / b)
theorem ok_over (T : Top K mg) : Has P w K mg base 2 "over" ["one", "other"] (spOver K) := by
  refine mk_has T.d_over sc_over (fun _ _ _ _ _ _ us hl => match us, hl with | [_, _], _ => rfl) (fun vs H Q E h => by obtain ⟨u, v, a, b, rfl, _⟩ := h; rfl) (fun f cdv A outer s H vs Q E hr h => ?_)
  obtain ⟨u, v, a, b, rfl, ⟨p, rfl, hp⟩, ⟨q, rfl, hq⟩, sa, sb, h0, hb, hQ⟩ := h
  refine ⟨_, pss_one (ps_ret (pf (ok_made T) hr (pa_cons (pe_op op_mulX (ix 0) (ix 1)) (pa_cons (pe_op op_mulX (ix 0) (ix 1)) pa_nil)))), ?_⟩
  refine ⟨_, rfl, p, _, 0, _, rfl, rfl, hp, rv_0 a, _, rfl, q, _, 1, _, rfl, rfl, hq, rv_1 b, _, _, rfl, rfl, mul_nd sa sb,
    _, rfl, p, _, 1, _, rfl, rfl, hp, rv_1 a, _, rfl, q, _, 0, _, rfl, rfl, hq, rv_0 b, _, _, rfl, rfl, mul_dn sa sb, _, _, rfl, dn_pos a h0, lt_48 ?_, ?_⟩
  · exact wide_lt (i := (a.den : Int)) (j := b.num) (a := 2400) (b := 2400) (by rw [Int.natAbs_natCast]; exact sa.1) hb
  · rw [q_div _ _ (by grind)]; exact hQ
def spNeg (K : PySem.W.Frag) : Sp := fun vs H Q _ => ∃ u a, vs = [u] ∧ Rt K H u a ∧ WR K H Q (-a)
theorem ok_negative (T : Top K mg) : Has P w K mg base 1 "negative" ["one"] (spNeg K) := by
  refine mk_has T.d_negative sc_negative (fun _ _ _ _ _ _ us hl => match us, hl with | [_], _ => rfl) (fun vs H Q E h => by obtain ⟨u, a, rfl, _⟩ := h; rfl) (fun f cdv A outer s H vs Q E hr h => ?_)
  obtain ⟨u, a, rfl, ⟨p, rfl, hp⟩, hQ⟩ := h
  refine ⟨_, pss_one (ps_ret (pe_tup (pa_cons (pe_un un_neg (ix 0)) (pa_cons (ix 0) pa_nil)))), ?_⟩
  refine ⟨_, rfl, p, _, 0, _, rfl, rfl, hp, rv_0 a, _, rfl, _, rfl, p, _, 1, _, rfl, rfl, hp, rv_1 a, (by show 2 ≤ sizeLine; decide), fun t ht => ?_⟩
  exact hQ _ _ (same_upd ht) ⟨t, rfl, SqT.of upd_same⟩
def spBelow (K : PySem.W.Frag) : Sp := fun vs H Q _ => ∃ u v a b, vs = [u, v] ∧ Rt K H u a ∧ Rt K H v b ∧ Sm a ∧ Sm b ∧ Q (.bl (decide (a < b))) H
theorem ok_is_below (T : Top K mg) : Has P w K mg base 1 "is_below" ["one", "other"] (spBelow K) := by
  refine mk_has T.d_is_below sc_is_below (fun _ _ _ _ _ _ us hl => match us, hl with | [_, _], _ => rfl) (fun vs H Q E h => by obtain ⟨u, v, a, b, rfl, _⟩ := h; rfl) (fun f cdv A outer s H vs Q E hr h => ?_)
  obtain ⟨u, v, a, b, rfl, ⟨p, rfl, hp⟩, ⟨q, rfl, hq⟩, sa, sb, hQ⟩ := h
  refine ⟨_, pss_one (ps_ret (pe_cmpR op_lt (pe_op op_mulX (ix 0) (ix 1)) (pe_op op_mulX (ix 1) (ix 0)) (nomark _))), ?_⟩
  refine ⟨_, rfl, p, _, 0, _, rfl, rfl, hp, rv_0 a, _, rfl, q, _, 1, _, rfl, rfl, hq, rv_1 b, _, _, rfl, rfl, mul_nd sa sb, _, rfl, q, _, 0, _, rfl, rfl, hq, rv_0 b, _, rfl, p, _, 1, _, rfl, rfl, hp, rv_1 a, _, _, rfl, rfl, mul_nd sb sa, _, _, rfl, rfl, ?_⟩
  have e : decide (a.num * (b.den : Int) < b.num * (a.den : Int)) = decide (a < b) := by
    rw [decide_eq_decide]; exact (Rat.lt_iff a b).symm
  show Q (.bl (decide (a.num * (b.den : Int) < b.num * (a.den : Int)))) H
  rw [e]; exact hQ
def spBetween (K : PySem.W.Frag) : Sp := fun vs H Q _ => ∃ u v x a b c, vs = [u, v, x] ∧ Rt K H u a ∧ Rt K H v b ∧ Rt K H x c ∧ Sm a ∧ Sm b ∧ Sm c ∧ Sm (b - a) ∧ Sm (c * (b - a)) ∧ WR K H Q (a + c * (b - a))
theorem ok_between (T : Top K mg) : Has P w K mg base 3 "between" ["one", "other", "part"] (spBetween K) := by
  refine mk_has T.d_between sc_between (fun _ _ _ _ _ _ us hl => match us, hl with | [_, _, _], _ => rfl) (fun vs H Q E h => by obtain ⟨u, v, x, a, b, c, rfl, _⟩ := h; rfl) (fun f cdv A outer s H vs Q E hr h => ?_)
  obtain ⟨u, v, x, a, b, c, rfl, hp, hq, hx, sa, sb, sc, s1, s2, hQ⟩ := h
  refine ⟨_, pss_one (ps_ret (pf (ok_plus T) hr (pa_cons (pv 0) (pa_cons (pf (ok_times T) hr (pa_cons (pv 2) (pa_cons (pf (ok_less T) hr (pa_cons (pv 1) (pa_cons (pv 0) pa_nil))) pa_nil))) pa_nil)))), ?_⟩
  refine ⟨_, rfl, _, rfl, _, rfl, _, rfl, _, _, b, a, rfl, hq, hp, sb, sa, fun H1 v1 e1 r1 => ?_⟩
  refine ⟨_, _, c, b - a, rfl, hx.keep e1, r1, sc, s1, fun H2 v2 e2 r2 => ?_⟩
  exact ⟨_, _, a, c * (b - a), rfl, hp.keep (e1.trans e2), r2, sa, s2, fun H3 v3 e3 r3 => hQ H3 v3 ((e1.trans e2).trans e3) r3⟩
end
end Bc
end
section
set_option linter.all false
namespace Bc
/-! ### mirrors of the program's functions on polynomials -/
def tn (p : List Rat) : Nat → Nat
  | 0 => 0
  | n + 1 => if p.getD n 0 = 0 then tn p n else n + 1
def trim (p : List Rat) : List Rat := p.take (tn p p.length)
/-- Horner's rule over the numbers from the last one on -/
def hor (x : Rat) : Rat → List Rat → Rat
  | acc, [] => acc
  | acc, c :: cs => hor x (acc * x + c) cs
def horOk (x : Rat) : Rat → List Rat → Prop
  | _, [] => True
  | acc, c :: cs => Sm acc ∧ Sm (acc * x) ∧ Sm c ∧ horOk x (acc * x + c) cs
def pad (p : List Rat) (n : Nat) : List Rat := p ++ List.replicate (n - p.length) 0
def pplus (p q : List Rat) : List Rat := trim (List.zipWith (· + ·) (pad p (max p.length q.length)) (pad q (max p.length q.length)))
def pscale (p : List Rat) (k : Rat) : List Rat := trim (p.map (· * k))
/-- one row of a product -/
def mrow (a : Rat) : List Rat → Nat → List Rat → List Rat
  | f, _, [] => f
  | f, k, y :: ys => mrow a (f.set k (f.getD k 0 + a * y)) (k + 1) ys
def mrowOk (a : Rat) : List Rat → Nat → List Rat → Prop
  | _, _, [] => True
  | f, k, y :: ys => Sm a ∧ Sm y ∧ Sm (a * y) ∧ Sm (f.getD k 0) ∧ mrowOk a (f.set k (f.getD k 0 + a * y)) (k + 1) ys
def mall (q : List Rat) : List Rat → Nat → List Rat → List Rat
  | f, _, [] => f
  | f, k, x :: xs => mall q (mrow x f k q) (k + 1) xs
def mallOk (q : List Rat) : List Rat → Nat → List Rat → Prop
  | _, _, [] => True
  | f, k, x :: xs => mrowOk x f k q ∧ mallOk q (mrow x f k q) (k + 1) xs
def ptimes (p q : List Rat) : List Rat := if p = [] ∨ q = [] then [] else mall q (List.replicate (p.length + q.length - 1) 0) 0 p
def ptimesOk (p q : List Rat) : Prop := mallOk q (List.replicate (p.length + q.length - 1) 0) 0 p
def sl1 : Nat → List Rat → List Rat
  | _, [] => []
  | k, c :: cs => c * (k : Rat) :: sl1 (k + 1) cs
def pslope (p : List Rat) : List Rat := (sl1 0 p).drop 1
/-- n over k as the program reckons -/
def chz (m : Int) : Nat → Int
  | 0 => 1
  | t + 1 => (chz m t * (m - t)) / ((t : Int) + 1)
/-- the sums of products, one place more: the first i places done -/
def syIn (l : List Rat) (u : Rat) : Nat → List Rat
  | 0 => l ++ [0]
  | i + 1 => (syIn l u i).set (i + 1) ((syIn l u i).getD (i + 1) 0 + l.getD i 0 * u)
def syStep (l : List Rat) (u : Rat) : List Rat := syIn l u l.length
def syAll : List Rat → List Rat → List Rat
  | l, [] => l
  | l, u :: us => syAll (syStep l u) us
def syOk : List Rat → List Rat → Prop
  | _, [] => True
  | l, u :: us => Sm u ∧ (∀ i, i < l.length → Sm (l.getD i 0) ∧ Sm (l.getD i 0 * u) ∧ Sm ((syIn l u i).getD (i + 1) 0)) ∧ syOk (syStep l u) us
def blIn (n : Int) (told : List Rat) : Rat → Nat → List Rat → Rat
  | acc, _, [] => acc
  | acc, k, c :: cs => blIn n told (acc + c * (told.getD k 0 * (1 / (chz n k : Rat)))) (k + 1) cs
def blOk (n : Int) (told : List Rat) : Rat → Nat → List Rat → Prop
  | _, _, [] => True
  | acc, k, c :: cs => Sm acc ∧ Sm c ∧ Sm (told.getD k 0) ∧ Sm (1 / (chz n k : Rat)) ∧ Sm (told.getD k 0 * (1 / (chz n k : Rat))) ∧ Sm (c * (told.getD k 0 * (1 / (chz n k : Rat)))) ∧
    blOk n told (acc + c * (told.getD k 0 * (1 / (chz n k : Rat)))) (k + 1) cs
def blossom (p us : List Rat) : Rat := blIn (us.length : Int) (syAll [1] us) 0 0 p
def blossomOk (p us : List Rat) : Prop := syOk [1] us ∧ blOk (us.length : Int) (syAll [1] us) 0 0 p

/-! ### lists by places -/
theorem getD_at {l : List Rat} {i : Nat} {x : Rat} (h : l[i]? = some x) : l.getD i 0 = x := by simp [List.getD, h]
theorem at_getD {l : List Rat} {i : Nat} (h : i < l.length) : l[i]? = some (l.getD i 0) := by simp [List.getD, h]
theorem hor_step (x acc c : Rat) (l : List Rat) : hor x acc (l ++ [c]) = hor x acc l * x + c := by
  induction l generalizing acc with
  | nil => rfl
  | cons a t ih => exact ih _
theorem tn_le (p : List Rat) : ∀ n, tn p n ≤ n
  | 0 => Nat.le_refl 0
  | n + 1 => by
    unfold tn
    split
    · have := tn_le p n; omega
    · exact Nat.le_refl _
theorem trim_len (p : List Rat) : (trim p).length ≤ p.length := by unfold trim; rw [List.length_take]; exact Nat.min_le_right _ _
theorem mrow_len (a : Rat) : ∀ (ys f : List Rat) (k : Nat), (mrow a f k ys).length = f.length
  | [], f, k => rfl
  | y :: ys, f, k => by
    show (mrow a (f.set k _) (k + 1) ys).length = f.length
    rw [mrow_len a ys, List.length_set]
theorem mall_len (q : List Rat) : ∀ (xs f : List Rat) (k : Nat), (mall q f k xs).length = f.length
  | [], f, k => rfl
  | x :: xs, f, k => by
    show (mall q (mrow x f k q) (k + 1) xs).length = f.length
    rw [mall_len q xs, mrow_len]
theorem syIn_len (l : List Rat) (u : Rat) : ∀ i, (syIn l u i).length = l.length + 1
  | 0 => by simp [syIn]
  | i + 1 => by
    show ((syIn l u i).set _ _).length = _
    rw [List.length_set, syIn_len l u i]
theorem syAll_len : ∀ (us l : List Rat), (syAll l us).length = l.length + us.length
  | [], l => rfl
  | u :: us, l => by
    show (syAll (syStep l u) us).length = _
    rw [syAll_len us]
    unfold syStep
    rw [syIn_len, List.length_cons]; omega
theorem sl1_len : ∀ (p : List Rat) (k : Nat), (sl1 k p).length = p.length
  | [], k => rfl
  | c :: cs, k => by show (sl1 (k + 1) cs).length + 1 = cs.length + 1; rw [sl1_len cs]
theorem sl1_at : ∀ (p : List Rat) (k i : Nat) (c : Rat), p[i]? = some c → (sl1 k p)[i]? = some (c * ((k + i : Nat) : Rat))
  | [], k, i, c, h => by simp at h
  | a :: cs, k, 0, c, h => by
    simp at h; subst h; rfl
  | a :: cs, k, i + 1, c, h => by
    have := sl1_at cs (k + 1) i c (by simpa using h)
    show (sl1 (k + 1) cs)[i]? = _
    rw [this, show k + 1 + i = k + (i + 1) by omega]
end Bc
end
section
set_option Elab.async false
set_option linter.all false
set_option maxRecDepth 100000
set_option maxHeartbeats 4000000
set_option exponentiation.threshold 200000
namespace Bc
open PySem PySem.Spec PyProof.Rows L2
/-! ### ratios as data -/
def rD (q : Rat) : PyData := .tuple [.int q.num, .int (q.den : Int)]
theorem rD_dp {K : PySem.W.Frag} {H : Hp} {v : V} {q : Rat} (h : Rt K H v q) : Dp K H v (rD q) := by
  obtain ⟨a, rfl, h⟩ := h
  exact .tup h (.cons (.int _) (.cons (.int _) .nil))
theorem rD_lay (q : Rat) : (rD q).canLay0 = true := by simp [rD, PyData.canLay0, PyData.canLayAll0]
theorem rD_depth (q : Rat) : (rD q).depth = 1 := by simp [rD, PyData.depth, PyData.depthAll]
theorem rD_shaped (q : Rat) : SeqAt.shaped (rD q) = true := by
  show ((rD q).canLay0 && decide ((rD q).depth ≤ 64)) = true
  rw [rD_lay, rD_depth]; rfl
theorem rD_eqv (a b : Rat) : PyData.eqv (rD a) (rD b) = decide (a = b) := by
  have e : PyData.eqv (rD a) (rD b) = ((a.num == b.num) && (((a.den : Int) == (b.den : Int)) && true)) := by simp only [rD, PyData.eqv, PyData.eqvAll]
  rw [e]
  by_cases h : a = b
  · subst h; simp
  · rw [decide_eq_false h]
    by_cases h1 : a.num = b.num
    · by_cases h2 : a.den = b.den
      · exact absurd (Rat.ext h1 h2) h
      · have : ((a.den : Int) == (b.den : Int)) = false := beq_eq_false_iff_ne.mpr (by omega)
        rw [this]; simp
    · have : (a.num == b.num) = false := beq_eq_false_iff_ne.mpr h1
      rw [this]; simp
theorem rDs_lay : ∀ p : List Rat, PyData.canLayAll0 (p.map rD) = true
  | [] => by simp [PyData.canLayAll0]
  | q :: p => by simp [PyData.canLayAll0, rD_lay q, rDs_lay p]
theorem rDs_depth : ∀ p : List Rat, PyData.depthAll (p.map rD) ≤ 1
  | [] => by simp [PyData.depthAll]
  | q :: p => by
    have h1 := rDs_depth p
    have h2 := rD_depth q
    simp only [List.map_cons, PyData.depthAll]
    omega
theorem rDs_shaped (p : List Rat) : SeqAt.shaped (.tuple (p.map rD)) = true := by
  have h1 := rDs_depth p
  have h2 : PyData.depth (.tuple (p.map rD)) ≤ 64 := by simp only [PyData.depth]; omega
  show (PyData.canLay0 (.tuple (p.map rD)) && decide (PyData.depth (.tuple (p.map rD)) ≤ 64)) = true
  rw [Bool.and_eq_true]
  exact ⟨by simp only [PyData.canLay0]; exact rDs_lay p, decide_eq_true h2⟩
theorem rDl_shaped (p : List Rat) : SeqAt.shaped (.list (p.map rD)) = true := by
  have h1 := rDs_depth p
  have h2 : PyData.depth (.list (p.map rD)) ≤ 64 := by simp only [PyData.depth]; omega
  show (PyData.canLay0 (.list (p.map rD)) && decide (PyData.depth (.list (p.map rD)) ≤ 64)) = true
  rw [Bool.and_eq_true]
  exact ⟨by simp only [PyData.canLay0]; exact rDs_lay p, decide_eq_true h2⟩
theorem rDs_dp {K : PySem.W.Frag} {H : Hp} : ∀ {vs : List V} {p : List Rat}, RtL K H vs p → DpAll K H vs (p.map rD)
  | _, _, .nil => .nil
  | _, _, .cons r t => .cons (rD_dp r) (rDs_dp t)
theorem pol_dp {K : PySem.W.Frag} {H : Hp} {v : V} {p : List Rat} (h : Pol K H v p) : Dp K H v (.tuple (p.map rD)) := by
  obtain ⟨a, vs, rfl, h1, h2⟩ := h
  exact .tup h1 (rDs_dp h2)
theorem lis_dp {K : PySem.W.Frag} {H : Hp} {v : V} {p : List Rat} (h : Lis K H v p) : Dp K H v (.list (p.map rD)) := by
  obtain ⟨a, vs, rfl, h1, h2⟩ := h
  exact .lst h1 (rDs_dp h2)
theorem rDs_eqvAll : ∀ p q : List Rat, PyData.eqvAll (p.map rD) (q.map rD) = decide (p = q)
  | [], [] => by simp [PyData.eqvAll]
  | [], b :: q => by simp [PyData.eqvAll]
  | a :: p, [] => by simp [PyData.eqvAll]
  | a :: p, b :: q => by
    simp only [List.map_cons, PyData.eqvAll]
    rw [rD_eqv, rDs_eqvAll p q, ← Bool.decide_and]
    simp
theorem rT_eqv (p q : List Rat) : PyData.eqv (.tuple (p.map rD)) (.tuple (q.map rD)) = decide (p = q) := by
  simp only [PyData.eqv]; exact rDs_eqvAll p q
theorem rL_eqv (p q : List Rat) : PyData.eqv (.list (p.map rD)) (.list (q.map rD)) = decide (p = q) := by
  simp only [PyData.eqv]; exact rDs_eqvAll p q
section
variable {P : Program} {w : World} {K : PySem.W.Frag} {mg : Str → Option Value} {base : Heap}
theorem pgl {X : Cx} {x : Str} {z : Addr} {pos : Pos} (hm : X.mg x = some (.ref z)) (hg : Gl X x := by rfl) (hd : (x == ("__debug__" : Str)) = false := by decide) : PE X (.Name x pos) (tC (.ref z)) := pe_glob hg hm (show RelV (.ref z) (.ref z) from rfl) hd
theorem rt_zero {z : Addr} {H : Hp} (h : ∀ H, SqT K H z [.int 0, .int 1]) : Rt K H (.ref z) 0 := ⟨z, rfl, h H⟩
theorem rt_one {z : Addr} {H : Hp} (h : ∀ H, SqT K H z [.int 1, .int 1]) : Rt K H (.ref z) 1 := ⟨z, rfl, h H⟩
theorem sz1 {n : Nat} (h : n ≤ 1000) : n < sizeLine := small1000 h
theorem sz2 {n : Nat} (h : n ≤ 1000) : n ≤ sizeLine := Nat.le_of_lt (small1000 h)
theorem cutV_to (xs : List V) (n : Nat) (h : n ≤ xs.length) : cutV xs none (some (n : Int)) = xs.take n := by
  unfold cutV
  rw [show HT.sIx xs.length xs.length (some (n : Int)) = min n xs.length from HT.sIx_nat _ _ _, HT.sIx_none, Nat.min_eq_left h]
  rfl
theorem cutV_from (xs : List V) (n : Nat) (h : n ≤ xs.length) : cutV xs (some (n : Int)) none = xs.drop n := by
  unfold cutV
  rw [show HT.sIx xs.length 0 (some (n : Int)) = min n xs.length from HT.sIx_nat _ _ _, HT.sIx_none, Nat.min_eq_left h]
  exact List.take_of_length_le (by rw [List.length_drop]; exact Nat.le_refl _)
theorem cut_take {H : Hp} {xs : List V} {p : List Rat} {n : Nat} (h : RtL K H xs p) (hn : n ≤ xs.length) : RtL K H (cutV xs none (some (n : Int))) (p.take n) := by rw [cutV_to xs n hn]; exact pr_take _ h
theorem cut_drop {H : Hp} {xs : List V} {p : List Rat} {n : Nat} (h : RtL K H xs p) (hn : n ≤ xs.length) : RtL K H (cutV xs (some (n : Int)) none) (p.drop n) := by rw [cutV_from xs n hn]; exact pr_drop _ h
def spTrim (K : PySem.W.Frag) : Sp := fun vs H Q _ => ∃ v p, vs = [v] ∧ Lis K H v p ∧ p.length ≤ 1000 ∧ WP K H Q (trim p)
theorem ok_trimmed (T : Top K mg) : Has P w K mg base 2 "trimmed" ["row"] (spTrim K) := by
  refine mk_has T.d_trimmed sc_trimmed (fun _ _ _ _ _ _ us hl => match us, hl with | [_], _ => rfl) (fun vs H Q E h => by obtain ⟨v, p, rfl, _⟩ := h; rfl) (fun f cdv A outer s H vs Q E hr h => ?_)
  obtain ⟨v, p, rfl, ⟨a, xs, rfl, hS, hP⟩, hlen, hQ⟩ := h
  obtain ⟨z, gz, hz⟩ := T.zero
  have hl := Paired.length hP
  refine ⟨_, pss_cons (ps_set (i := 1) sc_trimmed.nd rfl (.inl rfl) (pe_callB call_len_seq (by rfl) T.b_len PySem.boot_len (a1 (pv 0))))
    (pss_cons (ps_while PassesOwn.never (PW.pt (pw_and (pt_cmpR op_gt (pv 1) pe_int (nomark _)) (pw_and1 (pt_cmpR (op_eqD hr.units) (pe_ix ix_list (pv 0) (pe_op op_sub (pv 1) pe_int) (fun _ _ => rfl)) (pgl gz) (nomark _)))))
      (pss_one (ps_aug (i := 1) sc_trimmed.nd rfl (.inl rfl) pe_int ip_sub)))
    (pss_one (ps_ret (pe_callTy call_tuple_of (by rfl) T.b_tuple (by decide +kernel) (a1 (pe_slice sl_list (pv 0) po_none (po_some (pv 1)))))))), ?_⟩
  refine ⟨.ref a, rfl, a, xs, rfl, .inl hS, ?_⟩
  refine ⟨fun m σ H1 => ∃ n : Nat, m = n ∧ σ = [some (.ref a), some (.int (n : Int))] ∧ H1 = H ∧ n ≤ p.length ∧ tn p n = tn p p.length, ⟨xs.length, xs.length, rfl, rfl, rfl, by omega, by rw [hl]⟩, ?_⟩
  rintro m σ H1 ⟨n, rfl, rfl, rfl, hn, ht⟩
  refine ⟨.int (m : Int), rfl, _, _, rfl, rfl, _, rfl, ite2 (fun e => ?_) (fun e => ?_)⟩
  · have hm : 0 < m := by have := of_decide_eq_true e; omega
    obtain ⟨k, rfl⟩ : ∃ k, m = k + 1 := ⟨m - 1, by omega⟩
    obtain ⟨x, hx, hr⟩ := pr_get hP (at_getD (show k < p.length by omega))
    refine ⟨.ref a, rfl, .int ((k + 1 : Nat) : Int), rfl, ((k + 1 : Nat) : Int), 1, rfl, rfl, a, xs, _, x, rfl, rfl, hS, at_of (j := k) (by omega) hx, rD (p.getD k 0), rD 0, rD_dp hr, rD_dp (rt_zero hz), rD_shaped _, rD_shaped _, _, rfl, ?_⟩
    rw [rD_eqv]
    refine ite2 (fun e2 => ?_) (fun e2 => ?_)
    · have e3 : p.getD k 0 = 0 := of_decide_eq_true e2
      have e4 : tn p (k + 1) = tn p k := by show (if p.getD k 0 = 0 then tn p k else k + 1) = _; rw [if_pos e3]
      refine ⟨fun σ' H' => σ' = [some (.ref a), some (.int (k : Int))] ∧ H' = H1, fun σ' H' hN => ⟨k, by omega, k, rfl, hN.1, hN.2, by omega, by rw [← e4]; exact ht⟩, .int ((k + 1 : Nat) : Int), rfl, _, _, rfl, rfl, ?_⟩
      refine ⟨?_, rfl⟩
      show [some (V.ref a), some (.int (((k + 1 : Nat) : Int) - 1))] = _
      rw [show ((k + 1 : Nat) : Int) - 1 = (k : Int) by omega]
    · have e3 : ¬ p.getD k 0 = 0 := fun z => e2 (decide_eq_true z)
      have e4 : tn p (k + 1) = k + 1 := by show (if p.getD k 0 = 0 then tn p k else k + 1) = _; rw [if_neg e3]
      refine ⟨.ref a, rfl, .int ((k + 1 : Nat) : Int), rfl, _, rfl, a, xs, rfl, hS, fun b hb => ?_⟩
      refine ⟨b, _, rfl, .inl ⟨SqL.of upd_same, fun c hc => ?_⟩⟩
      refine hQ _ _ ((same_upd hb).trans (same_upd hc)) ⟨c, _, rfl, SqT.of upd_same, ?_⟩
      have kt : trim p = p.take (k + 1) := by unfold trim; rw [← ht, e4]
      rw [kt]
      exact cut_take (rtl_keep hP ((same_upd hb).trans (same_upd hc))) (by omega)
  · have hm : m = 0 := by
      have : ¬ (0 : Int) < (m : Int) := fun z => e (decide_eq_true z)
      omega
    subst hm
    refine iteF ⟨.ref a, rfl, .int ((0 : Nat) : Int), rfl, _, rfl, a, xs, rfl, hS, fun b hb => ?_⟩
    refine ⟨b, _, rfl, .inl ⟨SqL.of upd_same, fun c hc => ?_⟩⟩
    refine hQ _ _ ((same_upd hb).trans (same_upd hc)) ⟨c, _, rfl, SqT.of upd_same, ?_⟩
    have kt : trim p = p.take 0 := by unfold trim; rw [← ht]; rfl
    rw [kt]
    exact cut_take (n := 0) (rtl_keep hP ((same_upd hb).trans (same_upd hc))) (by omega)
def spAt (K : PySem.W.Frag) : Sp := fun vs H Q _ => ∃ u v p x, vs = [u, v] ∧ Pol K H u p ∧ Rt K H v x ∧ Sm x ∧ p.length ≤ 1000 ∧ horOk x 0 p.reverse ∧ WR K H Q (hor x 0 p.reverse)
theorem horOk_drop {x : Rat} : ∀ (l : List Rat) (acc : Rat) (i : Nat) (c : Rat), horOk x acc l → l[i]? = some c → Sm (hor x acc (l.take i)) ∧ Sm (hor x acc (l.take i) * x) ∧ Sm c
  | [], _, _, _, _, h => by simp at h
  | a :: l, acc, 0, c, ⟨h1, h2, h3, _⟩, h => by
    simp at h; subst h; exact ⟨h1, h2, h3⟩
  | a :: l, acc, i + 1, c, ⟨_, _, _, h4⟩, h => horOk_drop l (acc * x + a) i c h4 (by simpa using h)
theorem hor_take {x acc : Rat} {l : List Rat} {i : Nat} {c : Rat} (h : l[i]? = some c) : hor x acc (l.take (i + 1)) = hor x acc (l.take i) * x + c := by
  rw [List.take_add_one, h]; exact hor_step x acc c _
theorem ok_at (T : Top K mg) : Has P w K mg base 3 "at" ["poly", "x"] (spAt K) := by
  refine mk_has T.d_at sc_at (fun _ _ _ _ _ _ us hl => match us, hl with | [_, _], _ => rfl) (fun vs H Q E h => by obtain ⟨u, v, p, x, rfl, _⟩ := h; rfl) (fun f cdv A outer s H vs Q E hr h => ?_)
  obtain ⟨u, v, p, x, rfl, ⟨a, xs, rfl, hS, hP⟩, hx, sx, hlen, ok, hQ⟩ := h
  obtain ⟨z, gz, hz⟩ := T.zero
  have hl := Paired.length hP
  refine ⟨_, pss_cons (ps_set (i := 2) sc_at.nd rfl (.inl rfl) (pgl gz))
    (pss_cons (ps_for PassesOwn.never rfl (pi_tup (pe_revT (pv 0))) (pg_name (i := 3) sc_at.nd rfl (.inl rfl))
      (pss_one (ps_set (i := 2) sc_at.nd rfl (.inl rfl) (pf (ok_plus T) hr (pa_cons (pf (ok_times T) hr (pa_cons (pv 2) (a1 (pv 1)))) (a1 (pv 3)))))))
    (pss_one (ps_ret (pv 2)))), ?_⟩
  refine ⟨.ref a, rfl, a, xs, rfl, hS, fun b hb => ?_⟩
  refine ⟨b, rfl, ⟨_, SqT.of upd_same⟩, for_tup (xs := xs.reverse) (fun i σ H1 => ∃ f o, σ = [some (.ref a), some v, some f, o] ∧ Same (upd H b (.tup xs.reverse)) H1 ∧ Rt K H1 f (hor x 0 (p.reverse.take i))) ?_ (fun i σ H1 _ hI => ?_) (fun i c σ H1 hc hI => ?_) (fun σ H1 hI => ?_)⟩
  · exact ⟨_, _, rfl, Same.refl _, rt_zero hz⟩
  · obtain ⟨f, o, _, sm, _⟩ := hI
    exact seqT_keep sm (SqT.of upd_same)
  · obtain ⟨f, o, rfl, sm, hf⟩ := hI
    obtain ⟨c', hc', hr'⟩ := pr_get2 (pr_rev hP) hc
    obtain ⟨k1, k2, k3⟩ := horOk_drop _ _ _ _ ok hc'
    have sm' := (same_upd hb).trans sm
    refine ⟨_, rfl, _, rfl, _, _, _, x, rfl, hf, hx.keep sm', k1, sx, fun H2 v2 e2 r2 => ?_⟩
    refine ⟨_, rfl, _, _, _, _, rfl, r2, hr'.keep (sm'.trans e2), k2, k3, fun H3 v3 e3 r3 => ?_⟩
    exact ⟨_, _, rfl, (sm.trans e2).trans e3, by rw [hor_take hc']; exact r3⟩
  · obtain ⟨f, o, rfl, sm, hf⟩ := hI
    refine ⟨_, rfl, hQ _ _ ((same_upd hb).trans sm) ?_⟩
    rw [List.take_of_length_le (by rw [List.length_reverse, List.length_reverse]; omega)] at hf
    exact hf
end
end Bc
end
section
set_option Elab.async false
set_option linter.all false
set_option maxRecDepth 100000
set_option maxHeartbeats 4000000
set_option exponentiation.threshold 200000
namespace Bc
open PySem PySem.Spec PyProof.Rows L2
section
variable {K : PySem.W.Frag} {H H1 : Hp} {D : Addr} {xs ys : List V} {v : V} {q : Rat} {vs : List V} {p : List Rat} {o : HO}
theorem same_new (s : Same H H1) (n : H D = none) : Same H (upd H1 D o) := fun b x e => by
  rw [upd_ne (ne_of_none e n)]
  exact s b x e
theorem seqT_upd {a : Addr} (hD : H D = some (.lst xs)) (h : SqT K H a vs) : SqT K (upd H D (.lst ys)) a vs := by
  rcases h with (h | ⟨o, h⟩) | h
  · exact .inl (.inl (by rw [upd_ne (ne_of h hD (by intro z; cases z))]; exact h))
  · exact .inl (.inr ⟨o, by rw [upd_ne (ne_of h hD (by intro z; cases z))]; exact h⟩)
  · exact .inr h
theorem rt_upd (hD : H D = some (.lst xs)) (h : Rt K H v q) : Rt K (upd H D (.lst ys)) v q := let ⟨a, e, h1⟩ := h; ⟨a, e, seqT_upd hD h1⟩
theorem rtl_upd (hD : H D = some (.lst xs)) (h : RtL K H vs p) : RtL K (upd H D (.lst ys)) vs p := Paired.mapP h fun _ _ x => rt_upd hD x
theorem pol_upd (hD : H D = some (.lst xs)) (h : Pol K H v p) : Pol K (upd H D (.lst ys)) v p := let ⟨a, vs, e, h1, h2⟩ := h; ⟨a, vs, e, seqT_upd hD h1, rtl_upd hD h2⟩
end
section
variable {P : Program} {w : World} {K : PySem.W.Frag} {mg : Str → Option Value} {base : Heap}
def spScaled (K : PySem.W.Frag) : Sp := fun vs H Q _ => ∃ u v p k, vs = [u, v] ∧ Pol K H u p ∧ Rt K H v k ∧ Sm k ∧ (∀ a ∈ p, Sm a) ∧ p.length ≤ 1000 ∧ WP K H Q (pscale p k)
theorem ok_p_scaled (T : Top K mg) : Has P w K mg base 3 "p_scaled" ["poly", "number"] (spScaled K) := by
  refine mk_has T.d_p_scaled sc_p_scaled (fun _ _ _ _ _ _ us hl => match us, hl with | [_, _], _ => rfl) (fun vs H Q E h => by obtain ⟨u, v, p, k, rfl, _⟩ := h; rfl) (fun f cdv A outer s H vs Q E hr h => ?_)
  obtain ⟨u, v, p, k, rfl, ⟨a, xs, rfl, hS, hP⟩, hk, sk, sp, hlen, hQ⟩ := h
  have hl := Paired.length hP
  refine ⟨_, pss_one (ps_ret (pf (ok_trimmed T) hr (a1 (pe_lc (own := [("one", 2)]) (g := gName 2) rfl sc_p_scaled.nd (pi_tup (pv 0)) (blkOk_by (own := [("one", 2)]) (N := n_p_scaled) (sc := defScope s_p_scaled) (by decide +kernel))
    (fun _ _ _ _ _ => pg_name (i := 2) sc_p_scaled.nd rfl (Or.inl rfl)) (fun _ _ _ _ _ => pts_nil) (fun _ _ _ _ _ => pf (ok_times T) hr (pa_cons (pv 2) (a1 (pv 1)))))))), ?_⟩
  refine ⟨.ref a, rfl, a, rfl, ⟨_, hS⟩, fun D hD => lc_tup (xs := xs) (fun i H1 => Same H H1 ∧ ∃ acc, H1 D = some (.lst acc) ∧ RtL K H1 acc ((p.take i).map (· * k))) ?_ (fun i H1 _ hI => seqT_keep hI.1 hS) (fun i c H1 hc hI => ?_) (fun H1 hI => ?_)⟩
  · exact ⟨same_upd hD, [], upd_same, .nil⟩
  · obtain ⟨sm, acc, hA, hR⟩ := hI
    obtain ⟨c', hc', hr'⟩ := pr_get2 hP hc
    have hla : acc.length ≤ 1000 := by
      have h1 := Paired.length hR
      rw [List.length_map, List.length_take] at h1
      omega
    refine ⟨rfl, _, rfl, _, rfl, _, _, _, k, rfl, hr'.keep sm, hk.keep sm, sp _ (List.mem_of_getElem? hc'), sk, fun H2 v2 e2 r2 => ?_⟩
    refine ⟨acc, e2 _ _ hA, sz1 hla, same_new (sm.trans e2) hD, _, upd_same, ?_⟩
    rw [List.take_add_one, hc', List.map_append]
    exact pr_append (rtl_upd (e2 _ _ hA) (rtl_keep hR e2)) (.cons (rt_upd (e2 _ _ hA) r2) .nil)
  · obtain ⟨sm, acc, hA, hR⟩ := hI
    rw [List.take_of_length_le (by omega)] at hR
    exact ⟨_, _, rfl, ⟨D, acc, rfl, SqL.of hA, hR⟩, by rw [List.length_map]; exact hlen, fun H2 v2 e2 r2 => hQ _ _ (sm.trans e2) r2⟩
end
end Bc
end
section
set_option Elab.async false
set_option linter.all false
set_option maxRecDepth 100000
set_option maxHeartbeats 4000000
namespace Bc
open PySem PySem.Spec PyProof.Rows L2
/-! ### loops and comprehensions over enumerate(tuple), zip(list, list) -/
theorem for_enumT {K : PySem.W.Frag} {a : Addr} {xs : List V} {g : TG} {tb : TS} {D : Ends} {σ : L2.St} {H : Hp} (Pv : Nat → L2.St → Hp → Prop) (h0 : Pv 0 σ H) (hl : ∀ i σ H, i ≤ xs.length → Pv i σ H → SqT K H a xs)
    (hs : ∀ i x σ H T, xs[i]? = some x → Pv i σ H → H T = none → g (.ref T) σ (upd H T (.tup [.int (i : Nat), x])) fun σ2 H2 => tb { D with nx := Pv (i + 1), ct := Pv (i + 1), bk := D.nx } σ2 H2) (hd : ∀ σ H, Pv xs.length σ H → D.nx σ H) :
    ∃ W : Nat → Nat → L2.St → Hp → Prop, (∃ m, W 0 m σ H) ∧ ∀ i m σ H, W i m σ H →
      ((IteT K a).stop i H ∧ D.nx σ H) ∨ ((IteT K a).go i H ∧ ∃ N : L2.St → Hp → Prop, (∀ σ' H', N σ' H' → ∃ m', m' < m ∧ W (i + 1) m' σ' H') ∧ ∀ x H', (IteT K a).yld i H x H' → g x σ H' fun σ2 H2 => tb { D with nx := N, ct := N, bk := D.nx } σ2 H2) := by
  refine ⟨fun i m σ H => m = xs.length - i ∧ i ≤ xs.length ∧ Pv i σ H, ⟨xs.length, by simp, Nat.zero_le _, h0⟩, ?_⟩
  rintro i m σ H ⟨rfl, hi, p⟩
  have q := hl i σ H hi p
  by_cases hlt : i < xs.length
  · refine .inr ⟨⟨xs, xs[i], q, by simp [hlt]⟩, Pv (i + 1), fun σ' H' p' => ⟨xs.length - (i + 1), by omega, rfl, hlt, p'⟩, fun x H' y => ?_⟩
    obtain ⟨T, x', rfl, nT, rfl, fx⟩ := y
    exact hs i x' σ _ T (fx xs q) p nT
  · have e : i = xs.length := by omega
    subst e
    exact .inl ⟨⟨xs, q, rfl⟩, hd σ H p⟩
theorem lc_enumT {K : PySem.W.Frag} {a : Addr} {xs : List V} {g : TG} {tt : TT} {te : TE} {vs : List Nat} {σ : L2.St} {H1 : Hp} {D : Addr} {Qd : Hp → Prop} (Pv : Nat → Hp → Prop) (h0 : Pv 0 (upd H1 D (.lst []))) (hl : ∀ i H, i ≤ xs.length → Pv i H → SqT K H a xs)
    (hs : ∀ i x H T, xs[i]? = some x → Pv i H → H T = none → g (.ref T) (wipe σ vs) (upd H T (.tup [.int (i : Nat), x])) fun σ2 H2 => wipe σ2 vs = wipe σ vs ∧ tt σ2 H2 fun b H3 =>
      if b = true then te σ2 H3 fun y H4 => ∃ acc, H4 D = some (.lst acc) ∧ acc.length < sizeLine ∧ Pv (i + 1) (upd H4 D (.lst (acc ++ [y]))) else Pv (i + 1) H3) (hd : ∀ H, Pv xs.length H → Qd H) :
    ∃ W : Nat → Nat → Hp → Prop, (∃ m, W 0 m (upd H1 D (.lst []))) ∧ ∀ i m H, W i m H →
      ((IteT K a).stop i H ∧ Qd H) ∨ ((IteT K a).go i H ∧ ∃ Nx : Hp → Prop, (∀ H', Nx H' → ∃ m', m' < m ∧ W (i + 1) m' H') ∧ ∀ x H', (IteT K a).yld i H x H' → g x (wipe σ vs) H' fun σ2 H2 => wipe σ2 vs = wipe σ vs ∧ tt σ2 H2 fun b H3 =>
        if b = true then te σ2 H3 fun y H4 => ∃ acc, H4 D = some (.lst acc) ∧ acc.length < sizeLine ∧ Nx (upd H4 D (.lst (acc ++ [y]))) else Nx H3) := by
  refine ⟨fun i m H => m = xs.length - i ∧ i ≤ xs.length ∧ Pv i H, ⟨xs.length, by simp, Nat.zero_le _, h0⟩, ?_⟩
  rintro i m H ⟨rfl, hi, p⟩
  have q := hl i H hi p
  by_cases hlt : i < xs.length
  · refine .inr ⟨⟨xs, xs[i], q, by simp [hlt]⟩, Pv (i + 1), fun H' p' => ⟨xs.length - (i + 1), by omega, rfl, hlt, p'⟩, fun x H' y => ?_⟩
    obtain ⟨T, x', rfl, nT, rfl, fx⟩ := y
    exact hs i x' _ T (fx xs q) p nT
  · have e : i = xs.length := by omega
    subst e
    exact .inl ⟨⟨xs, q, rfl⟩, hd H p⟩
theorem lc_zip {K : PySem.W.Frag} {a b : Addr} {xs ys : List V} {g : TG} {tt : TT} {te : TE} {vs : List Nat} {σ : L2.St} {H1 : Hp} {D : Addr} {Qd : Hp → Prop} (he : xs.length = ys.length) (Pv : Nat → Hp → Prop) (h0 : Pv 0 (upd H1 D (.lst []))) (hl : ∀ i H, i ≤ xs.length → Pv i H → SqL K H a xs ∧ SqL K H b ys)
    (hs : ∀ i x y H T, xs[i]? = some x → ys[i]? = some y → Pv i H → H T = none → g (.ref T) (wipe σ vs) (upd H T (.tup [x, y])) fun σ2 H2 => wipe σ2 vs = wipe σ vs ∧ tt σ2 H2 fun b H3 =>
      if b = true then te σ2 H3 fun y H4 => ∃ acc, H4 D = some (.lst acc) ∧ acc.length < sizeLine ∧ Pv (i + 1) (upd H4 D (.lst (acc ++ [y]))) else Pv (i + 1) H3) (hd : ∀ H, Pv xs.length H → Qd H) :
    ∃ W : Nat → Nat → Hp → Prop, (∃ m, W 0 m (upd H1 D (.lst []))) ∧ ∀ i m H, W i m H →
      ((Itz K a b).stop i H ∧ Qd H) ∨ ((Itz K a b).go i H ∧ ∃ Nx : Hp → Prop, (∀ H', Nx H' → ∃ m', m' < m ∧ W (i + 1) m' H') ∧ ∀ x H', (Itz K a b).yld i H x H' → g x (wipe σ vs) H' fun σ2 H2 => wipe σ2 vs = wipe σ vs ∧ tt σ2 H2 fun b H3 =>
        if b = true then te σ2 H3 fun y H4 => ∃ acc, H4 D = some (.lst acc) ∧ acc.length < sizeLine ∧ Nx (upd H4 D (.lst (acc ++ [y]))) else Nx H3) := by
  refine ⟨fun i m H => m = xs.length - i ∧ i ≤ xs.length ∧ Pv i H, ⟨xs.length, by simp, Nat.zero_le _, h0⟩, ?_⟩
  rintro i m H ⟨rfl, hi, p⟩
  obtain ⟨q, q2⟩ := hl i H hi p
  by_cases hlt : i < xs.length
  · refine .inr ⟨⟨xs, ys, xs[i], ys[i], q, q2, by simp [hlt], by simp [he ▸ hlt]⟩, Pv (i + 1), fun H' p' => ⟨xs.length - (i + 1), by omega, rfl, hlt, p'⟩, fun x H' y => ?_⟩
    obtain ⟨T, x', y', rfl, nT, rfl, fx, fy⟩ := y
    exact hs i x' y' _ T (fx xs q) (fy ys q2) p nT
  · have e : i = xs.length := by omega
    subst e
    exact .inl ⟨⟨xs, ys, q, q2, .inl (Nat.le_refl _)⟩, hd H p⟩
end Bc
end
section
set_option Elab.async false
set_option linter.all false
set_option maxRecDepth 100000
set_option maxHeartbeats 4000000
set_option exponentiation.threshold 200000
namespace Bc
open PySem PySem.Spec PyProof.Rows L2
theorem ixN_nat {n j : Nat} (h : j < n) : ixN n (j : Int) = some j := by
  unfold ixN
  rw [if_pos (by omega), if_pos (by omega)]
  rfl
theorem ixN_of {n j : Nat} {z : Int} (e : z = (j : Int)) (h : j < n) : ixN n z = some j := by rw [e]; exact ixN_nat h
theorem flat_rep {α : Type} (x : α) : ∀ n : Nat, (List.replicate n [x]).flatten = List.replicate n x
  | 0 => rfl
  | n + 1 => by rw [List.replicate_succ, List.flatten_cons, flat_rep x n]; rfl
theorem zip_at {f : Rat → Rat → Rat} {p q : List Rat} {i : Nat} {a b : Rat} (h1 : p[i]? = some a) (h2 : q[i]? = some b) : (List.zipWith f p q)[i]? = some (f a b) := by
  rw [List.getElem?_zipWith, h1, h2]
theorem take_next {p : List Rat} {i : Nat} {c : Rat} (h : p[i]? = some c) : p.take (i + 1) = p.take i ++ [c] := by rw [List.take_add_one, h]; rfl
theorem pad_len (p : List Rat) {n : Nat} (h : p.length ≤ n) : (pad p n).length = n := by unfold pad; rw [List.length_append, List.length_replicate]; omega
theorem sm_zero' : Sm 0 := ⟨Nat.one_lt_two_pow (by decide), Nat.two_pow_pos _⟩
theorem sm_pad {p : List Rat} {n : Nat} (h : ∀ a ∈ p, Sm a) : ∀ a ∈ pad p n, Sm a := by
  intro a ha
  unfold pad at ha
  rcases List.mem_append.mp ha with h1 | h1
  · exact h a h1
  · rw [(List.mem_replicate.mp h1).2]; exact sm_zero'
section
variable {P : Program} {w : World} {K : PySem.W.Frag} {mg : Str → Option Value} {base : Heap}
/-- two polynomials of small numbers -/
def spPP (K : PySem.W.Frag) (f : List Rat → List Rat → List Rat) : Sp := fun vs H Q _ => ∃ u v p q, vs = [u, v] ∧ Pol K H u p ∧ Pol K H v q ∧ (∀ a ∈ p, Sm a) ∧ (∀ a ∈ q, Sm a) ∧ p.length ≤ 1000 ∧ q.length ≤ 1000 ∧ WP K H Q (f p q)
theorem ok_p_plus (T : Top K mg) : Has P w K mg base 3 "p_plus" ["one", "other"] (spPP K pplus) := by
  refine mk_has T.d_p_plus sc_p_plus (fun _ _ _ _ _ _ us hl => match us, hl with | [_, _], _ => rfl) (fun vs H Q E h => by obtain ⟨u, v, p, q, rfl, _⟩ := h; rfl) (fun f cdv A outer s H vs Q E hr h => ?_)
  obtain ⟨u, v, p, q, rfl, ⟨a, xs, rfl, hS, hP⟩, ⟨b, ys, rfl, hS2, hP2⟩, sp, sq, hlen, hlen2, hQ⟩ := h
  obtain ⟨z, gz, hz⟩ := T.zero
  have hl := Paired.length hP
  have hl2 := Paired.length hP2
  refine ⟨_, pss_cons (ps_set (i := 2) sc_p_plus.nd rfl (.inl rfl) (pe_callB (call_max2 rfl) (by rfl) T.b_max (by decide +kernel) (pa_cons (pe_callB call_len_seq (by rfl) T.b_len PySem.boot_len (a1 (pv 0))) (a1 (pe_callB call_len_seq (by rfl) T.b_len PySem.boot_len (a1 (pv 1)))))))
    (pss_cons (ps_set (i := 3) sc_p_plus.nd rfl (.inl rfl) (pe_lst (StX.pa_star (pv 0) (StX.pa_star (pe_op op_rep (pe_lst (a1 (pgl gz))) (pe_op op_sub (pv 2) (pe_callB call_len_seq (by rfl) T.b_len PySem.boot_len (a1 (pv 0))))) pa_nil))))
    (pss_cons (ps_set (i := 4) sc_p_plus.nd rfl (.inl rfl) (pe_lst (StX.pa_star (pv 1) (StX.pa_star (pe_op op_rep (pe_lst (a1 (pgl gz))) (pe_op op_sub (pv 2) (pe_callB call_len_seq (by rfl) T.b_len PySem.boot_len (a1 (pv 1))))) pa_nil))))
    (pss_one (ps_ret (pf (ok_trimmed T) hr (a1 (pe_lc (own := [("x", 5), ("y", 6)]) (g := gTup K 2 (gCons (gName 5) (gCons (gName 6) gNil))) rfl sc_p_plus.nd (pi_zip (by rfl) T.b_zip (pa_cons (pv 3) (a1 (pv 4))))
      (blkOk_by (own := [("x", 5), ("y", 6)]) (N := n_p_plus) (sc := defScope s_p_plus) (by decide +kernel))
      (fun _ _ _ _ _ => pg_tup rfl (pgs_cons (pg_name (i := 5) sc_p_plus.nd rfl (Or.inl rfl)) (pgs_cons (pg_name (i := 6) sc_p_plus.nd rfl (Or.inl rfl)) pgs_nil))) (fun _ _ _ _ _ => pts_nil)
      (fun _ _ _ _ _ => pf (ok_plus T) hr (pa_cons (pv 5) (a1 (pv 6))))))))))), ?_⟩
  have em : (if (ys.length : Int) > (xs.length : Int) then (ys.length : Int) else (xs.length : Int)) = ((max p.length q.length : Nat) : Int) := by split <;> omega
  generalize hn : max p.length q.length = n at em
  have hnp : p.length ≤ n := by omega
  have hnq : q.length ≤ n := by omega
  have hn1 : n ≤ 1000 := by omega
  refine ⟨.ref a, rfl, a, xs, rfl, .inr hS, .ref b, rfl, b, ys, rfl, .inr hS2, _, _, rfl, ?_⟩
  rw [em]
  -- first
  refine ⟨.ref a, rfl, a, xs, rfl, .inl hS, (by show 1 ≤ sizeLine; decide), fun l hl' => ⟨_, rfl, .ref a, rfl, a, xs, rfl, .inr (seqT_keep (same_upd hl') hS), _, _, rfl, rfl, l, _, _, rfl, rfl, upd_same, by omega, by omega, ?_, fun l2 hl2' => ?_⟩⟩
  · show 1 * _ ≤ sizeLine
    rw [Nat.one_mul]; exact sz2 (by omega)
  have t1 : ((n : Int) - (xs.length : Int)).toNat = n - p.length := by omega
  refine ⟨l2, _, rfl, .inr (SqL.of upd_same), ?_, fun l3 hl3' => ?_⟩
  · rw [t1, flat_rep, List.append_nil, List.length_append, List.length_replicate]; exact sz2 (by omega)
  have s1 := ((same_upd (o := .lst [V.ref z]) hl').trans (same_upd (o := .lst (List.replicate ((n : Int) - (xs.length : Int)).toNat [V.ref z]).flatten) hl2')).trans (same_upd (o := .lst (xs ++ ((List.replicate ((n : Int) - (xs.length : Int)).toNat [V.ref z]).flatten ++ []))) hl3')
  have L1 : ∃ fs, fs = xs ++ ((List.replicate ((n : Int) - (xs.length : Int)).toNat [V.ref z]).flatten ++ []) ∧ fs.length = n ∧ ∀ H', Same H H' → RtL K H' fs (pad p n) := by
    refine ⟨_, rfl, ?_, fun H' e => ?_⟩
    · rw [t1, flat_rep, List.append_nil, List.length_append, List.length_replicate]; omega
    · rw [t1, flat_rep, List.append_nil]
      exact pr_append (rtl_keep hP e) (pr_rep (rt_zero hz) _)
  obtain ⟨fs, hfs, hfl, hfr⟩ := L1
  rw [← hfs] at s1 ⊢
  generalize hA : upd (upd (upd H l (HO.lst [V.ref z])) l2 (HO.lst (List.replicate ((n : Int) - (xs.length : Int)).toNat [V.ref z]).flatten)) l3 (HO.lst fs) = HA at s1 ⊢
  have eF : HA l3 = some (.lst fs) := by rw [← hA]; exact upd_same
  -- second
  refine ⟨.ref b, rfl, b, ys, rfl, .inl (seqT_keep s1 hS2), (by show 1 ≤ sizeLine; decide), fun m hm' => ⟨_, rfl, .ref b, rfl, b, ys, rfl, .inr (seqT_keep (s1.trans (same_upd hm')) hS2), _, _, rfl, rfl, m, _, _, rfl, rfl, upd_same, by omega, by omega, ?_, fun m2 hm2' => ?_⟩⟩
  · show 1 * _ ≤ sizeLine
    rw [Nat.one_mul]; exact sz2 (by omega)
  have t2 : ((n : Int) - (ys.length : Int)).toNat = n - q.length := by omega
  refine ⟨m2, _, rfl, .inr (SqL.of upd_same), ?_, fun m3 hm3' => ?_⟩
  · rw [t2, flat_rep, List.append_nil, List.length_append, List.length_replicate]; exact sz2 (by omega)
  have s2 := ((same_upd (o := .lst [V.ref z]) hm').trans (same_upd (o := .lst (List.replicate ((n : Int) - (ys.length : Int)).toNat [V.ref z]).flatten) hm2')).trans (same_upd (o := .lst (ys ++ ((List.replicate ((n : Int) - (ys.length : Int)).toNat [V.ref z]).flatten ++ []))) hm3')
  have L2' : ∃ gs, gs = ys ++ ((List.replicate ((n : Int) - (ys.length : Int)).toNat [V.ref z]).flatten ++ []) ∧ gs.length = n ∧ ∀ H', Same H H' → RtL K H' gs (pad q n) := by
    refine ⟨_, rfl, ?_, fun H' e => ?_⟩
    · rw [t2, flat_rep, List.append_nil, List.length_append, List.length_replicate]; omega
    · rw [t2, flat_rep, List.append_nil]
      exact pr_append (rtl_keep hP2 e) (pr_rep (rt_zero hz) _)
  obtain ⟨gs, hgs, hgl, hgr⟩ := L2'
  rw [← hgs] at s2 ⊢
  generalize hB : upd (upd (upd HA m (HO.lst [V.ref z])) m2 (HO.lst (List.replicate ((n : Int) - (ys.length : Int)).toNat [V.ref z]).flatten)) m3 (HO.lst gs) = HB at s2 ⊢
  have eG : HB m3 = some (.lst gs) := by rw [← hB]; exact upd_same
  have eF2 := s2 _ _ eF
  have s12 := s1.trans s2
  -- the sums
  refine ⟨_, rfl, _, rfl, l3, m3, fs, gs, rfl, SqL.of eF2, SqL.of eG, fun D hD => lc_zip (xs := fs) (ys := gs) (by omega) (fun i H1 => Same HB H1 ∧ ∃ acc, H1 D = some (.lst acc) ∧ RtL K H1 acc ((List.zipWith (· + ·) (pad p n) (pad q n)).take i)) ?_ (fun i H1 _ hI => ⟨hI.1.seq (SqL.of eF2), hI.1.seq (SqL.of eG)⟩) (fun i x y H1 t hx hy hI nt => ?_) (fun H1 hI => ?_)⟩
  · exact ⟨same_upd hD, [], upd_same, .nil⟩
  · obtain ⟨sm, acc, hA', hR⟩ := hI
    have smT := sm.trans (same_upd (o := .tup [x, y]) nt)
    have sm0 := s12.trans smT
    obtain ⟨x', hx', rx⟩ := pr_get2 (hfr _ sm0) hx
    obtain ⟨y', hy', ry⟩ := pr_get2 (hgr _ sm0) hy
    have hz' := zip_at (f := (· + ·)) hx' hy'
    have hla : acc.length ≤ 1000 := by
      have h1 := Paired.length hR
      rw [List.length_take, List.length_zipWith, pad_len p hnp, pad_len q hnq] at h1
      omega
    refine ⟨t, [x, y], rfl, SqT.of upd_same, rfl, x, [y], rfl, y, [], rfl, rfl, rfl, ?_⟩
    refine ⟨_, rfl, _, rfl, _, _, x', y', rfl, rx, ry, sm_pad sp _ (List.mem_of_getElem? hx'), sm_pad sq _ (List.mem_of_getElem? hy'), fun H2 v2 e2 r2 => ?_⟩
    have eD : H2 D = some (.lst acc) := e2 _ _ (same_upd nt _ _ hA')
    refine ⟨acc, eD, sz1 hla, same_new (smT.trans e2) hD, _, upd_same, ?_⟩
    rw [take_next hz']
    exact pr_append (rtl_upd eD (rtl_keep hR ((same_upd nt).trans e2))) (.cons (rt_upd eD r2) .nil)
  · obtain ⟨sm, acc, hA', hR⟩ := hI
    have hle : (List.zipWith (fun x1 x2 : Rat => x1 + x2) (pad p n) (pad q n)).length = n := by rw [List.length_zipWith, pad_len p hnp, pad_len q hnq]; omega
    rw [List.take_of_length_le (by omega)] at hR
    refine ⟨_, _, rfl, ⟨D, acc, rfl, SqL.of hA', hR⟩, by omega, fun H2 v2 e2 r2 => hQ _ _ ((s12.trans sm).trans e2) ?_⟩
    show Pol K H2 v2 (pplus p q)
    unfold pplus
    rw [hn]; exact r2
end
end Bc
end
section
set_option Elab.async false
set_option linter.all false
set_option maxRecDepth 100000
set_option maxHeartbeats 4000000
set_option exponentiation.threshold 200000
namespace Bc
open PySem PySem.Spec PyProof.Rows L2
theorem mrow_take (a : Rat) : ∀ (ys f : List Rat) (k i : Nat) (y : Rat), ys[i]? = some y → mrow a f k (ys.take (i + 1)) = (mrow a f k (ys.take i)).set (k + i) ((mrow a f k (ys.take i)).getD (k + i) 0 + a * y)
  | [], f, k, i, y, h => by simp at h
  | b :: ys, f, k, 0, y, h => by
    simp at h; subst h; rfl
  | b :: ys, f, k, i + 1, y, h => by
    have := mrow_take a ys (f.set k (f.getD k 0 + a * b)) (k + 1) i y (by simpa using h)
    show mrow a (f.set k _) (k + 1) (ys.take (i + 1)) = _
    rw [this, show k + 1 + i = k + (i + 1) by omega]
    rfl
theorem mrowOk_at (a : Rat) : ∀ (ys f : List Rat) (k i : Nat) (y : Rat), mrowOk a f k ys → ys[i]? = some y → Sm a ∧ Sm y ∧ Sm (a * y) ∧ Sm ((mrow a f k (ys.take i)).getD (k + i) 0)
  | [], f, k, i, y, _, h => by simp at h
  | b :: ys, f, k, 0, y, ⟨h1, h2, h3, h4, _⟩, h => by
    simp at h; subst h; exact ⟨h1, h2, h3, h4⟩
  | b :: ys, f, k, i + 1, y, ⟨_, _, _, _, h5⟩, h => by
    have := mrowOk_at a ys (f.set k (f.getD k 0 + a * b)) (k + 1) i y h5 (by simpa using h)
    rw [show k + 1 + i = k + (i + 1) by omega] at this
    exact this
theorem mall_take (q : List Rat) : ∀ (xs f : List Rat) (k i : Nat) (x : Rat), xs[i]? = some x → mall q f k (xs.take (i + 1)) = mrow x (mall q f k (xs.take i)) (k + i) q
  | [], f, k, i, x, h => by simp at h
  | b :: xs, f, k, 0, x, h => by
    simp at h; subst h; rfl
  | b :: xs, f, k, i + 1, x, h => by
    have := mall_take q xs (mrow b f k q) (k + 1) i x (by simpa using h)
    show mall q (mrow b f k q) (k + 1) (xs.take (i + 1)) = _
    rw [this, show k + 1 + i = k + (i + 1) by omega]
    rfl
theorem mallOk_at (q : List Rat) : ∀ (xs f : List Rat) (k i : Nat) (x : Rat), mallOk q f k xs → xs[i]? = some x → mrowOk x (mall q f k (xs.take i)) (k + i) q
  | [], f, k, i, x, _, h => by simp at h
  | b :: xs, f, k, 0, x, ⟨h1, _⟩, h => by
    simp at h; subst h; exact h1
  | b :: xs, f, k, i + 1, x, ⟨_, h2⟩, h => by
    have := mallOk_at q xs (mrow b f k q) (k + 1) i x h2 (by simpa using h)
    rw [show k + 1 + i = k + (i + 1) by omega] at this
    exact this
theorem sm_nat {n : Nat} (h : n ≤ 1000) : Sm (n : Rat) := by
  refine (Lat.of_int (n : Int) (k := 10) ?_).sm (D := 1) (by decide) (Nat.one_lt_two_pow (by decide)) (by decide)
  rw [Int.natAbs_natCast]
  exact Nat.lt_of_le_of_lt h (by decide)
theorem rv_nat (n : Nat) : rv (n : Rat) = [.int (n : Int), .int 1] := rfl
section
variable {P : Program} {w : World} {K : PySem.W.Frag} {mg : Str → Option Value} {base : Heap}
def spTimes (K : PySem.W.Frag) : Sp := fun vs H Q _ => ∃ u v p q, vs = [u, v] ∧ Pol K H u p ∧ Pol K H v q ∧ ptimesOk p q ∧ p.length ≤ 400 ∧ q.length ≤ 400 ∧ WP K H Q (ptimes p q)
theorem rD_nil {K : PySem.W.Frag} {H : Hp} {a : Addr} (h : SqT K H a []) : Dp K H (.ref a) (.tuple (([] : List Rat).map rD)) := .tup h .nil
theorem ok_p_times (T : Top K mg) : Has P w K mg base 3 "p_times" ["one", "other"] (spTimes K) := by
  refine mk_has T.d_p_times sc_p_times (fun _ _ _ _ _ _ us hl => match us, hl with | [_, _], _ => rfl) (fun vs H Q E h => by obtain ⟨u, v, p, q, rfl, _⟩ := h; rfl) (fun f cdv A outer s H vs Q E hr h => ?_)
  obtain ⟨u, v, p, q, rfl, ⟨a, xs, rfl, hS, hP⟩, ⟨b, ys, rfl, hS2, hP2⟩, ok, hlen, hlen2, hQ⟩ := h
  obtain ⟨z, gz, hz⟩ := T.zero
  have hl := Paired.length hP
  have hl2 := Paired.length hP2
  refine ⟨_, pss_cons (ps_if (PW.pt (pw_or (pt_cmpR (op_eqD hr.units) (pv 0) (pe_tup pa_nil) (nomark _)) (pw_or1 (pt_cmpR (op_eqD hr.units) (pv 1) (pe_tup pa_nil) (nomark _))))) (pss_one (ps_ret (pe_tup pa_nil))) pss_nil)
    (pss_cons (ps_set (i := 2) sc_p_times.nd rfl (.inl rfl) (pe_op op_rep (pe_lst (a1 (pgl gz))) (pe_op op_sub (pe_op op_add (pe_callB call_len_seq (by rfl) T.b_len PySem.boot_len (a1 (pv 0))) (pe_callB call_len_seq (by rfl) T.b_len PySem.boot_len (a1 (pv 1)))) pe_int)))
    (pss_cons (ps_for PassesOwn.never rfl (pi_enumT (by rfl) T.b_enumerate (a1 (pv 0))) (pg_tup rfl (pgs_cons (pg_name (i := 3) sc_p_times.nd rfl (.inl rfl)) (pgs_cons (pg_name (i := 4) sc_p_times.nd rfl (.inl rfl)) pgs_nil)))
      (pss_one (ps_for PassesOwn.never rfl (pi_enumT (by rfl) T.b_enumerate (a1 (pv 1))) (pg_tup rfl (pgs_cons (pg_name (i := 5) sc_p_times.nd rfl (.inl rfl)) (pgs_cons (pg_name (i := 6) sc_p_times.nd rfl (.inl rfl)) pgs_nil)))
        (pss_one (ps_asg (pf (ok_plus T) hr (pa_cons (pe_ix ix_list (pv 2) (pe_op op_add (pv 3) (pv 5)) (fun _ _ => rfl)) (a1 (pf (ok_times T) hr (pa_cons (pv 4) (a1 (pv 6))))))) (pg_sub (pv 2) (pe_op op_add (pv 3) (pv 5)) set_list))))))
    (pss_one (ps_ret (pe_callTy call_tuple_of (by rfl) T.b_tuple (by decide +kernel) (a1 (pv 2))))))), ?_⟩
  have hPu : Pol K H (.ref a) p := ⟨a, xs, rfl, hS, hP⟩
  have hPv : Pol K H (.ref b) q := ⟨b, ys, rfl, hS2, hP2⟩
  refine ⟨_, rfl, Nat.zero_le _, fun e1 he1 => ⟨_, _, pol_dp (Pol.keep hPu (same_upd he1)), rD_nil (SqT.of upd_same), rDs_shaped _, rDs_shaped _, _, rfl, ?_⟩⟩
  rw [rT_eqv]
  have fin0 : (p = [] ∨ q = []) → ∀ H1, Same H H1 → (∀ c, H1 c = none → Q (.ref c) (upd H1 c (.tup []))) := fun hpq H1 e c hc => by
    refine hQ _ _ (e.trans (same_upd hc)) ⟨c, [], rfl, SqT.of upd_same, ?_⟩
    unfold ptimes
    rw [if_pos hpq]; exact .nil
  refine ite2 (fun e => iteT ⟨Nat.zero_le _, fin0 (.inl (of_decide_eq_true e)) _ (same_upd he1)⟩) (fun e => ?_)
  have np : p ≠ [] := fun z => e (decide_eq_true z)
  refine ⟨_, rfl, Nat.zero_le _, fun e2 he2 => ⟨_, _, pol_dp (Pol.keep hPv ((same_upd he1).trans (same_upd he2))), rD_nil (SqT.of upd_same), rDs_shaped _, rDs_shaped _, _, rfl, ?_⟩⟩
  rw [rT_eqv]
  have s0 := (same_upd (o := .tup []) he1).trans (same_upd (o := .tup []) he2)
  refine ite2 (fun e => ⟨Nat.zero_le _, fin0 (.inr (of_decide_eq_true e)) _ s0⟩) (fun e => ?_)
  have nq : q ≠ [] := fun z => e (decide_eq_true z)
  generalize upd (upd H e1 (.tup [])) e2 (.tup []) = H0 at s0 ⊢
  have lp : 0 < p.length := List.length_pos_iff.mpr np
  have lq : 0 < q.length := List.length_pos_iff.mpr nq
  have hN : ((xs.length : Int) + (ys.length : Int) - 1).toNat = p.length + q.length - 1 := by omega
  generalize hn : p.length + q.length - 1 = n at hN
  refine ⟨(by show 1 ≤ sizeLine; decide), fun l hl' => ⟨.ref a, rfl, a, xs, rfl, .inr (seqT_keep (s0.trans (same_upd hl')) hS), .ref b, rfl, b, ys, rfl, .inr (seqT_keep (s0.trans (same_upd hl')) hS2), _, _, rfl, rfl, _, _, rfl, rfl, l, _, _, rfl, rfl, upd_same, by omega, by omega, ?_, fun D hD => ?_⟩⟩
  · show 1 * _ ≤ sizeLine
    rw [Nat.one_mul]; exact sz2 (by omega)
  rw [hN, flat_rep] at *
  have s1 := s0.trans (same_upd (o := .lst [V.ref z]) hl')
  generalize upd H0 l (.lst [V.ref z]) = HA at s1 hD ⊢
  have nD : H D = none := s1.free hD
  have pt : ptimes p q = mall q (List.replicate n 0) 0 p := by
    unfold ptimes
    rw [if_neg (by rintro (z | z); exact np z; exact nq z), hn]
  have ok' : mallOk q (List.replicate n 0) 0 p := by rw [← hn]; exact ok
  -- the outer loop
  refine ⟨.ref a, rfl, a, xs, rfl, seqT_keep (same_new s1 nD) hS, for_enumT (xs := xs) (fun i σ H1 => ∃ o3 o4 o5 o6 acc, σ = [some (.ref a), some (.ref b), some (.ref D), o3, o4, o5, o6] ∧ Same H H1 ∧ H1 D = some (.lst acc) ∧ RtL K H1 acc (mall q (List.replicate n 0) 0 (p.take i)))
    ⟨_, _, _, _, _, rfl, same_new s1 nD, upd_same, pr_rep (rt_zero hz) _⟩ (fun i σ H1 _ hI => ?_) (fun i x σ H1 t hx hI nt => ?_) (fun σ H1 hI => ?_)⟩
  · obtain ⟨_, _, _, _, _, _, sm, _⟩ := hI
    exact seqT_keep sm hS
  · obtain ⟨o3, o4, o5, o6, acc, rfl, sm, hA, hR⟩ := hI
    obtain ⟨x', hx', rx⟩ := pr_get2 hP hx
    have smt := sm.trans (same_upd (o := .tup [.int (i : Nat), x]) nt)
    have okr := mallOk_at q p _ 0 i x' ok' hx'
    rw [Nat.zero_add] at okr
    have hip : i < p.length := (List.getElem?_eq_some_iff.mp hx').1
    refine ⟨t, _, rfl, SqT.of upd_same, rfl, _, _, rfl, _, _, rfl, rfl, ?_⟩
    -- the inner loop
    refine ⟨.ref b, rfl, b, ys, rfl, seqT_keep smt hS2, for_enumT (xs := ys) (fun j σ H1 => ∃ o5 o6 acc, σ = [some (.ref a), some (.ref b), some (.ref D), some (.int (i : Nat)), some x, o5, o6] ∧ Same H H1 ∧ H1 D = some (.lst acc) ∧ RtL K H1 acc (mrow x' (mall q (List.replicate n 0) 0 (p.take i)) i (q.take j)))
      ⟨_, _, acc, rfl, smt, same_upd nt _ _ hA, rtl_keep hR (same_upd nt)⟩ (fun j σ H1 _ hI => ?_) (fun j y σ H1 t2 hy hI nt2 => ?_) (fun σ H1 hI => ?_)⟩
    · obtain ⟨_, _, _, _, sm, _⟩ := hI
      exact seqT_keep sm hS2
    · obtain ⟨o5, o6, acc2, rfl, sm2, hA2, hR2⟩ := hI
      obtain ⟨y', hy', ry⟩ := pr_get2 hP2 hy
      obtain ⟨k1, k2, k3, k4⟩ := mrowOk_at _ _ _ _ _ _ okr hy'
      have hjq : j < q.length := (List.getElem?_eq_some_iff.mp hy').1
      have smt2 := sm2.trans (same_upd (o := .tup [.int (j : Nat), y]) nt2)
      have hlen3 : (mrow x' (mall q (List.replicate n 0) 0 (p.take i)) i (q.take j)).length = n := by rw [mrow_len, mall_len, List.length_replicate]
      obtain ⟨e, he, re⟩ := pr_get hR2 (at_getD (i := i + j) (by omega))
      have hA3 := same_upd (o := .tup [.int (j : Nat), y]) nt2 _ _ hA2
      refine ⟨t2, _, rfl, SqT.of upd_same, rfl, _, _, rfl, _, _, rfl, rfl, ?_⟩
      refine ⟨.ref D, rfl, .int (i : Nat), rfl, .int (j : Nat), rfl, _, _, rfl, rfl, D, acc2, _, e, rfl, rfl, SqL.of hA3, at_of (j := i + j) (by omega) he, ?_⟩
      refine ⟨x, rfl, y, rfl, _, _, x', y', rfl, rx.keep smt2, ry.keep smt2, k1, k2, fun H2 v2 e2 r2 => ?_⟩
      refine ⟨_, _, _, _, rfl, re.keep ((same_upd nt2).trans e2), r2, k4, k3, fun H3 v3 e3 r3 => ?_⟩
      have hA4 := e3 _ _ (e2 _ _ hA3)
      have s4 := (smt2.trans e2).trans e3
      have hacc := Paired.length hR2
      refine ⟨.ref D, rfl, .int (i : Nat), rfl, .int (j : Nat), rfl, _, _, rfl, rfl, D, acc2, _, i + j, rfl, rfl, hA4, ixN_of (by omega) (by omega), ?_⟩
      refine ⟨_, _, _, rfl, same_new s4 nD, upd_same, ?_⟩
      rw [mrow_take x' q _ i j y' hy']
      exact pr_set _ (rtl_upd hA4 (rtl_keep hR2 (((same_upd nt2).trans e2).trans e3))) (rt_upd hA4 r3)
    · obtain ⟨o5, o6, acc2, rfl, sm2, hA2, hR2⟩ := hI
      refine ⟨_, _, _, _, acc2, rfl, sm2, hA2, ?_⟩
      rw [mall_take q p _ 0 i x' hx', Nat.zero_add]
      rw [List.take_of_length_le (l := q) (by omega)] at hR2
      exact hR2
  · obtain ⟨o3, o4, o5, o6, acc, rfl, sm, hA, hR⟩ := hI
    rw [List.take_of_length_le (by omega), ← pt] at hR
    refine ⟨.ref D, rfl, D, acc, rfl, .inl ⟨SqL.of hA, fun c hc => hQ _ _ (sm.trans (same_upd hc)) ⟨c, acc, rfl, SqT.of upd_same, rtl_keep hR (same_upd hc)⟩⟩⟩
def spSlope (K : PySem.W.Frag) : Sp := fun vs H Q _ => ∃ u p, vs = [u] ∧ Pol K H u p ∧ (∀ a ∈ p, Sm a) ∧ p.length ≤ 1000 ∧ WP K H Q (pslope p)
theorem ok_p_slope (T : Top K mg) : Has P w K mg base 3 "p_slope" ["poly"] (spSlope K) := by
  refine mk_has T.d_p_slope sc_p_slope (fun _ _ _ _ _ _ us hl => match us, hl with | [_], _ => rfl) (fun vs H Q E h => by obtain ⟨u, p, rfl, _⟩ := h; rfl) (fun f cdv A outer s H vs Q E hr h => ?_)
  obtain ⟨u, p, rfl, ⟨a, xs, rfl, hS, hP⟩, sp, hlen, hQ⟩ := h
  have hl := Paired.length hP
  refine ⟨_, pss_one (ps_ret (pe_callTy call_tuple_of (by rfl) T.b_tuple (by decide +kernel) (a1 (pe_slice sl_list (pe_lc (own := [("power", 1), ("one", 2)]) (g := gTup K 2 (gCons (gName 1) (gCons (gName 2) gNil))) rfl sc_p_slope.nd (pi_enumT (by rfl) T.b_enumerate (a1 (pv 0)))
      (blkOk_by (own := [("power", 1), ("one", 2)]) (N := n_p_slope) (sc := defScope s_p_slope) (by decide +kernel))
      (fun _ _ _ _ _ => pg_tup rfl (pgs_cons (pg_name (i := 1) sc_p_slope.nd rfl (Or.inl rfl)) (pgs_cons (pg_name (i := 2) sc_p_slope.nd rfl (Or.inl rfl)) pgs_nil))) (fun _ _ _ _ _ => pts_nil)
      (fun _ _ _ _ _ => pf (ok_times T) hr (pa_cons (pv 2) (a1 (pe_tup (pa_cons (pv 1) (a1 pe_int))))))) (po_some pe_int) po_none)))), ?_⟩
  refine ⟨.ref a, rfl, a, xs, rfl, hS, fun D hD => lc_enumT (xs := xs) (fun i H1 => Same H H1 ∧ ∃ acc, H1 D = some (.lst acc) ∧ RtL K H1 acc ((sl1 0 p).take i)) ⟨same_upd hD, [], upd_same, .nil⟩ (fun i H1 _ hI => seqT_keep hI.1 hS) (fun i x H1 t hx hI nt => ?_) (fun H1 hI => ?_)⟩
  · obtain ⟨sm, acc, hA, hR⟩ := hI
    obtain ⟨x', hx', rx⟩ := pr_get2 hP hx
    have hsl := sl1_at p 0 i x' hx'
    rw [Nat.zero_add] at hsl
    have hip : i < p.length := (List.getElem?_eq_some_iff.mp hx').1
    have smt := sm.trans (same_upd (o := .tup [.int (i : Nat), x]) nt)
    refine ⟨t, _, rfl, SqT.of upd_same, rfl, _, _, rfl, _, _, rfl, rfl, rfl, ?_⟩
    refine ⟨_, rfl, _, rfl, (by show 2 ≤ sizeLine; decide), fun t2 ht2 => ⟨_, _, x', (i : Rat), rfl, rx.keep (smt.trans (same_upd ht2)), ⟨t2, rfl, SqT.of upd_same⟩, sp _ (List.mem_of_getElem? hx'), sm_nat (by omega), fun H2 v2 e2 r2 => ?_⟩⟩
    have s2 := ((same_upd (o := .tup [.int (i : Nat), x]) nt).trans (same_upd (o := .tup [.int (i : Nat), .int 1]) ht2)).trans e2
    have hA2 := s2 _ _ hA
    have hla := Paired.length hR
    rw [List.length_take, sl1_len] at hla
    refine ⟨acc, hA2, sz1 (by omega), same_new (sm.trans s2) hD, _, upd_same, ?_⟩
    rw [take_next hsl]
    exact pr_append (rtl_upd hA2 (rtl_keep hR s2)) (.cons (rt_upd hA2 r2) .nil)
  · obtain ⟨sm, acc, hA, hR⟩ := hI
    rw [List.take_of_length_le (by rw [sl1_len]; omega)] at hR
    have hla := Paired.length hR
    rw [sl1_len] at hla
    refine ⟨1, rfl, D, acc, rfl, SqL.of hA, fun c hc => ⟨c, _, rfl, .inl ⟨SqL.of upd_same, fun e he => hQ _ _ ((sm.trans (same_upd hc)).trans (same_upd he)) ⟨e, _, rfl, SqT.of upd_same, ?_⟩⟩⟩⟩
    by_cases h0 : p.length = 0
    · have e1 : acc = [] := List.eq_nil_of_length_eq_zero (by omega)
      have e2 : p = [] := List.eq_nil_of_length_eq_zero h0
      subst e1 e2
      exact .nil
    · exact cut_drop (n := 1) (rtl_keep hR ((same_upd hc).trans (same_upd he))) (by omega)
end
end Bc
end
section
set_option Elab.async false
set_option linter.all false
set_option maxRecDepth 100000
set_option maxHeartbeats 4000000
set_option exponentiation.threshold 200000
namespace Bc
open PySem PySem.Spec PyProof.Rows L2
theorem chz_small {m k : Nat} (hm : m ≤ 4) (hk : k ≤ 4) : (chz (m : Int) k).natAbs < 2 ^ 64 := by
  have h : ∀ a : Fin 5, ∀ b : Fin 5, (chz ((a.val : Nat) : Int) b.val).natAbs < 2 ^ 64 := by decide
  exact h ⟨m, by omega⟩ ⟨k, by omega⟩
theorem chz_pos {m k : Nat} (hm : m ≤ 4) (hk : k ≤ m) : 0 < chz (m : Int) k := by
  have h : ∀ a : Fin 5, ∀ b : Fin 5, b.val ≤ a.val → 0 < chz ((a.val : Nat) : Int) b.val := by decide
  exact h ⟨m, by omega⟩ ⟨k, by omega⟩ hk
theorem syAll_take : ∀ (us l : List Rat) (i : Nat) (u : Rat), us[i]? = some u → syAll l (us.take (i + 1)) = syStep (syAll l (us.take i)) u
  | [], l, i, u, h => by simp at h
  | b :: us, l, 0, u, h => by
    simp at h; subst h; rfl
  | b :: us, l, i + 1, u, h => syAll_take us (syStep l b) i u (by simpa using h)
theorem syOk_at : ∀ (us l : List Rat) (i : Nat) (u : Rat), syOk l us → us[i]? = some u → Sm u ∧ ∀ j, j < (syAll l (us.take i)).length → Sm ((syAll l (us.take i)).getD j 0) ∧ Sm ((syAll l (us.take i)).getD j 0 * u) ∧ Sm ((syIn (syAll l (us.take i)) u j).getD (j + 1) 0)
  | [], l, i, u, _, h => by simp at h
  | b :: us, l, 0, u, ⟨h1, h2, _⟩, h => by
    simp at h; subst h; exact ⟨h1, h2⟩
  | b :: us, l, i + 1, u, ⟨_, _, h3⟩, h => syOk_at us (syStep l b) i u h3 (by simpa using h)
theorem blIn_take (n : Int) (told : List Rat) : ∀ (p : List Rat) (acc : Rat) (k i : Nat) (c : Rat), p[i]? = some c → blIn n told acc k (p.take (i + 1)) = blIn n told acc k (p.take i) + c * (told.getD (k + i) 0 * (1 / (chz n (k + i) : Rat)))
  | [], acc, k, i, c, h => by simp at h
  | b :: p, acc, k, 0, c, h => by
    simp at h; subst h; rfl
  | b :: p, acc, k, i + 1, c, h => by
    have := blIn_take n told p (acc + b * (told.getD k 0 * (1 / (chz n k : Rat)))) (k + 1) i c (by simpa using h)
    rw [show k + 1 + i = k + (i + 1) by omega] at this
    exact this
theorem blOk_at (n : Int) (told : List Rat) : ∀ (p : List Rat) (acc : Rat) (k i : Nat) (c : Rat), blOk n told acc k p → p[i]? = some c →
    Sm (blIn n told acc k (p.take i)) ∧ Sm c ∧ Sm (told.getD (k + i) 0) ∧ Sm (1 / (chz n (k + i) : Rat)) ∧ Sm (told.getD (k + i) 0 * (1 / (chz n (k + i) : Rat))) ∧ Sm (c * (told.getD (k + i) 0 * (1 / (chz n (k + i) : Rat))))
  | [], acc, k, i, c, _, h => by simp at h
  | b :: p, acc, k, 0, c, ⟨h1, h2, h3, h4, h5, h6, _⟩, h => by
    simp at h; subst h; exact ⟨h1, h2, h3, h4, h5, h6⟩
  | b :: p, acc, k, i + 1, c, ⟨_, _, _, _, _, _, h7⟩, h => by
    have := blOk_at n told p _ (k + 1) i c h7 (by simpa using h)
    rw [show k + 1 + i = k + (i + 1) by omega] at this
    exact this
section
variable {P : Program} {w : World} {K : PySem.W.Frag} {mg : Str → Option Value} {base : Heap}
abbrev a2 {X : Cx} {a b : Expr} {ta tb : TE} (h : PE X a ta) (h2 : PE X b tb) (hs : starEach (a :: [b]) X.env = (false, eval a X.env) :: starEach [b] X.env := by rfl) (hs2 : starEach (b :: []) X.env = (false, eval b X.env) :: starEach [] X.env := by rfl) := pa_cons h (pa_cons h2 pa_nil hs2) hs
abbrev a3 {X : Cx} {a b c : Expr} {ta tb tc : TE} (h : PE X a ta) (h2 : PE X b tb) (h3 : PE X c tc) (hs : starEach (a :: [b, c]) X.env = (false, eval a X.env) :: starEach [b, c] X.env := by rfl) (hs2 : starEach (b :: [c]) X.env = (false, eval b X.env) :: starEach [c] X.env := by rfl) (hs3 : starEach (c :: []) X.env = (false, eval c X.env) :: starEach [] X.env := by rfl) := pa_cons h (pa_cons h2 (pa_cons h3 pa_nil hs3) hs2) hs
def spChoose : Sp := fun vs H Q _ => ∃ m k : Nat, vs = [.int (m : Int), .int (k : Int)] ∧ m ≤ 4 ∧ k ≤ 4 ∧ Q (.int (chz (m : Int) k)) H
theorem ok_choose (T : Top K mg) : Has P w K mg base 1 "choose" ["many", "few"] spChoose := by
  refine mk_has T.d_choose sc_choose (fun _ _ _ _ _ _ us hl => match us, hl with | [_, _], _ => rfl) (fun vs H Q E h => by obtain ⟨m, k, rfl, _⟩ := h; rfl) (fun f cdv A outer s H vs Q E hr h => ?_)
  obtain ⟨m, k, rfl, hm, hk, hQ⟩ := h
  refine ⟨_, pss_cons (ps_set (i := 2) sc_choose.nd rfl (.inl rfl) pe_int)
    (pss_cons (ps_for PassesOwn.never rfl (pi_range1 (by rfl) T.b_range (a1 (pv 1))) (pg_name (i := 3) sc_choose.nd rfl (.inl rfl))
      (pss_one (ps_set (i := 2) sc_choose.nd rfl (.inl rfl) (pe_op op_fdivW (pe_op op_mulX (pv 2) (pe_op op_sub (pv 0) (pv 3))) (pe_op op_add (pv 3) pe_int)))))
    (pss_one (ps_ret (pv 2)))), ?_⟩
  refine ⟨.int (k : Int), rfl, _, rfl, by omega, by omega, ?_⟩
  refine for_range (n := ((k : Int)).toNat) (fun i σ H1 => ∃ o, σ = [some (.int (m : Int)), some (.int (k : Int)), some (.int (chz (m : Int) i)), o] ∧ H1 = H) ⟨_, rfl, rfl⟩ (fun i σ H1 hi hI => ?_) (fun σ H1 hI => ?_)
  · obtain ⟨o, rfl, rfl⟩ := hI
    have hi4 : i ≤ 4 := by omega
    refine ⟨_, rfl, _, rfl, .int (0 + (i : Int)), rfl, _, _, rfl, rfl, _, _, rfl, rfl, mulx_ok (chz_small hm hi4) (show ((m : Int) - (0 + (i : Int))).natAbs < 2 ^ 64 by omega) (by decide), _, rfl, _, _, rfl, rfl, _, _, rfl, rfl, wide_div (b := 64) (by omega) (show (0 + (i : Int) + 1).natAbs < 2 ^ 64 by omega) (by decide) (by decide), ?_⟩
    refine ⟨some (.int (0 + (i : Int))), ?_, rfl⟩
    show [some (V.int (m : Int)), some (.int (k : Int)), some (.int (chz (m : Int) i * ((m : Int) - (0 + (i : Int))) / (0 + (i : Int) + 1))), some (.int (0 + (i : Int)))] = _
    rw [Int.zero_add]; rfl
  · obtain ⟨o, rfl, rfl⟩ := hI
    refine ⟨_, rfl, ?_⟩
    rw [Int.toNat_natCast]; exact hQ
def spSym (K : PySem.W.Frag) : Sp := fun vs H Q _ => ∃ u us, vs = [u] ∧ Pol K H u us ∧ syOk [1] us ∧ us.length ≤ 100 ∧ ∀ H' v, Same H H' → Lis K H' v (syAll [1] us) → Q v H'
theorem ok_symmetric (T : Top K mg) : Has P w K mg base 3 "symmetric" ["places"] (spSym K) := by
  refine mk_has T.d_symmetric sc_symmetric (fun _ _ _ _ _ _ us hl => match us, hl with | [_], _ => rfl) (fun vs H Q E h => by obtain ⟨u, us, rfl, _⟩ := h; rfl) (fun f cdv A outer s H vs Q E hr h => ?_)
  obtain ⟨u, us, rfl, ⟨a, xs, rfl, hS, hP⟩, ok, hlen, hQ⟩ := h
  obtain ⟨z, gz, hz⟩ := T.zero
  obtain ⟨y, gy, hy⟩ := T.one
  have hl := Paired.length hP
  refine ⟨_, pss_cons (ps_set (i := 1) sc_symmetric.nd rfl (.inl rfl) (pe_lst (a1 (pgl gy))))
    (pss_cons (ps_for PassesOwn.never rfl (pi_tup (pv 0)) (pg_name (i := 2) sc_symmetric.nd rfl (.inl rfl))
      (pss_cons (ps_set (i := 3) sc_symmetric.nd rfl (.inl rfl) (pe_lst (StX.pa_star (pv 1) (a1 (pgl gz)))))
      (pss_cons (ps_for PassesOwn.never rfl (pi_range1 (by rfl) T.b_range (a1 (pe_callB call_len_seq (by rfl) T.b_len PySem.boot_len (a1 (pv 1))))) (pg_name (i := 4) sc_symmetric.nd rfl (.inl rfl))
        (pss_one (ps_asg (pf (ok_plus T) hr (pa_cons (pe_ix ix_list (pv 3) (pe_op op_add (pv 4) pe_int) (fun _ _ => rfl)) (a1 (pf (ok_times T) hr (pa_cons (pe_ix ix_list (pv 1) (pv 4) (fun _ _ => rfl)) (a1 (pv 2))))))) (pg_sub (pv 3) (pe_op op_add (pv 4) pe_int) set_list))))
      (pss_one (ps_set (i := 1) sc_symmetric.nd rfl (.inl rfl) (pv 3))))))
    (pss_one (ps_ret (pv 1)))), ?_⟩
  refine ⟨(by show 1 ≤ sizeLine; decide), fun l hl' => ?_⟩
  refine ⟨.ref a, rfl, a, rfl, ⟨_, seqT_keep (same_upd hl') hS⟩, for_tup (xs := xs) (fun i σ H1 => ∃ F o2 o3 o4 fs, σ = [some (.ref a), some (.ref F), o2, o3, o4] ∧ Same H H1 ∧ H1 F = some (.lst fs) ∧ RtL K H1 fs (syAll [1] (us.take i))) ⟨l, _, _, _, _, rfl, same_upd hl', upd_same, .cons (rt_one hy) .nil⟩ (fun i σ H1 _ hI => ?_) (fun i x σ H1 hx hI => ?_) (fun σ H1 hI => ?_)⟩
  · obtain ⟨_, _, _, _, _, _, sm, _⟩ := hI
    exact seqT_keep sm hS
  · obtain ⟨F, o2, o3, o4, fs, rfl, sm, hF, hR⟩ := hI
    obtain ⟨x', hx', rx⟩ := pr_get2 hP hx
    obtain ⟨k0, k1⟩ := syOk_at us [1] i x' ok hx'
    have hi : i < us.length := (List.getElem?_eq_some_iff.mp hx').1
    have hft : (syAll [1] (us.take i)).length = 1 + i := by rw [syAll_len, List.length_take]; show 1 + _ = _; omega
    have hfl := Paired.length hR
    generalize hfo : syAll [1] (us.take i) = fo at hR k1 hft hfl
    refine ⟨.ref F, rfl, F, fs, rfl, .inr (SqL.of hF), (by rw [List.length_append]; exact sz2 (by show fs.length + 1 ≤ 1000; omega)), fun L hL => ?_⟩
    have smL := sm.trans (same_upd (o := .lst (fs ++ [V.ref z])) hL)
    refine ⟨.ref F, rfl, F, fs, rfl, .inl (SqL.of (same_upd hL _ _ hF)), fs.length, rfl, by omega, by omega, ?_⟩
    refine for_range (n := ((fs.length : Int)).toNat) (fun j σ H2 => ∃ o4 ls, σ = [some (.ref a), some (.ref F), some x, some (.ref L), o4] ∧ Same H1 H2 ∧ H2 L = some (.lst ls) ∧ RtL K H2 ls (syIn fo x' j)) ⟨_, _, rfl, same_upd hL, upd_same, pr_append (rtl_keep hR (same_upd hL)) (.cons (rt_zero hz) .nil)⟩ (fun j σ H2 hj hI => ?_) (fun σ H2 hI => ?_)
    · obtain ⟨o4, ls, rfl, sm2, hL2, hR2⟩ := hI
      have hj2 : j < fo.length := by omega
      obtain ⟨q1, q2, q3⟩ := k1 j hj2
      obtain ⟨e, he, re⟩ := pr_get hR2 (at_getD (i := j + 1) (by rw [syIn_len]; omega))
      obtain ⟨e', he', re'⟩ := pr_get hR (at_getD (i := j) hj2)
      have smt := sm.trans sm2
      refine ⟨.ref L, rfl, .int (0 + (j : Int)), rfl, _, _, rfl, rfl, L, ls, _, e, rfl, rfl, SqL.of hL2, at_of (j := j + 1) (by omega) he, ?_⟩
      refine ⟨.ref F, rfl, .int (0 + (j : Int)), rfl, F, fs, _, e', rfl, rfl, SqL.of (sm2 _ _ hF), at_of (j := j) (by omega) he', ?_⟩
      refine ⟨x, rfl, _, _, _, x', rfl, re'.keep sm2, rx.keep smt, q1, k0, fun H3 v3 e3 r3 => ?_⟩
      refine ⟨_, _, _, _, rfl, re.keep e3, r3, q3, q2, fun H4 v4 e4 r4 => ?_⟩
      have hL4 := e4 _ _ (e3 _ _ hL2)
      have hls := Paired.length hR2
      rw [syIn_len] at hls
      refine ⟨.ref L, rfl, .int (0 + (j : Int)), rfl, _, _, rfl, rfl, L, ls, _, j + 1, rfl, rfl, hL4, ixN_of (by omega) (by omega), ?_⟩
      refine ⟨_, _, rfl, same_new ((sm2.trans e3).trans e4) hL, upd_same, ?_⟩
      exact pr_set _ (rtl_upd hL4 (rtl_keep hR2 (e3.trans e4))) (rt_upd hL4 r4)
    · obtain ⟨o4, ls, rfl, sm2, hL2, hR2⟩ := hI
      refine ⟨.ref L, rfl, ?_⟩
      refine ⟨L, _, _, _, ls, rfl, sm.trans sm2, hL2, ?_⟩
      rw [syAll_take us [1] i x' hx', hfo]
      unfold syStep
      rw [show fo.length = ((fs.length : Int)).toNat by omega]
      exact hR2
  · obtain ⟨F, o2, o3, o4, fs, rfl, sm, hF, hR⟩ := hI
    rw [List.take_of_length_le (l := us) (by omega)] at hR
    exact ⟨_, rfl, hQ _ _ sm ⟨F, fs, rfl, SqL.of hF, hR⟩⟩
def spBlossom (K : PySem.W.Frag) : Sp := fun vs H Q _ => ∃ u v p us, vs = [u, v] ∧ Pol K H u p ∧ Pol K H v us ∧ blossomOk p us ∧ p.length ≤ us.length + 1 ∧ us.length ≤ 4 ∧ WR K H Q (blossom p us)
theorem ok_blossom_of (T : Top K mg) : Has P w K mg base 4 "blossom_of" ["poly", "places"] (spBlossom K) := by
  refine mk_has T.d_blossom_of sc_blossom_of (fun _ _ _ _ _ _ us hl => match us, hl with | [_, _], _ => rfl) (fun vs H Q E h => by obtain ⟨u, v, p, us, rfl, _⟩ := h; rfl) (fun f cdv A outer s H vs Q E hr h => ?_)
  obtain ⟨u, v, p, us, rfl, ⟨a, xs, rfl, hS, hP⟩, ⟨b, ys, rfl, hS2, hP2⟩, ⟨ok1, ok2⟩, hlen, hlen2, hQ⟩ := h
  obtain ⟨z, gz, hz⟩ := T.zero
  have hl := Paired.length hP
  have hl2 := Paired.length hP2
  have hPb : Pol K H (.ref b) us := ⟨b, ys, rfl, hS2, hP2⟩
  refine ⟨_, pss_cons (ps_par (i := 2) (j := 3) (by rfl) sc_blossom_of.nd rfl rfl (by decide) rfl rfl (pa_cons (pgl gz) (a1 (pf (ok_symmetric T) hr (a1 (pv 1))))) (by rfl))
    (pss_cons (ps_for PassesOwn.never rfl (pi_enumT (by rfl) T.b_enumerate (a1 (pv 0))) (pg_tup rfl (pgs_cons (pg_name (i := 4) sc_blossom_of.nd rfl (.inl rfl)) (pgs_cons (pg_name (i := 5) sc_blossom_of.nd rfl (.inl rfl)) pgs_nil)))
      (pss_one (ps_set (i := 2) sc_blossom_of.nd rfl (.inl rfl) (pf (ok_plus T) (hr.mono (by decide)) (a2 (pv 2) (pf (ok_times T) (hr.mono (by decide)) (a2 (pv 5) (pf (ok_times T) (hr.mono (by decide)) (a2 (pe_ix ix_list (pv 3) (pv 4) (fun _ _ => rfl)) (pf (ok_made T) (hr.mono (by decide)) (a2 pe_int (pf (ok_choose T) (hr.mono (by decide)) (a2 (pe_callB call_len_seq (by rfl) T.b_len PySem.boot_len (a1 (pv 1))) (pv 4))))))))))))))
    (pss_one (ps_ret (pv 2)))), ?_⟩
  refine ⟨_, rfl, _, us, rfl, hPb, ok1, by omega, fun H1 v1 e1 r1 => ?_⟩
  obtain ⟨F, fs, rfl, hF, hR⟩ := r1
  refine ⟨_, _, rfl, ?_⟩
  have hfl := Paired.length hR
  rw [syAll_len] at hfl
  have hfl2 : fs.length = 1 + us.length := hfl
  refine ⟨.ref a, rfl, a, xs, rfl, seqT_keep e1 hS, for_enumT (xs := xs) (fun i σ H2 => ∃ q o4 o5, σ = [some (.ref a), some (.ref b), some q, some (.ref F), o4, o5] ∧ Same H1 H2 ∧ Rt K H2 q (blIn (us.length : Int) (syAll [1] us) 0 0 (p.take i))) ⟨_, _, _, rfl, Same.refl _, rt_zero hz⟩ (fun i σ H2 _ hI => ?_) (fun i x σ H2 t hx hI nt => ?_) (fun σ H2 hI => ?_)⟩
  · obtain ⟨_, _, _, _, sm, _⟩ := hI
    exact seqT_keep (e1.trans sm) hS
  · obtain ⟨q, o4, o5, rfl, sm, rq⟩ := hI
    obtain ⟨x', hx', rx⟩ := pr_get2 hP hx
    obtain ⟨k1, k2, k3, k4, k5, k6⟩ := blOk_at _ _ p 0 0 i x' ok2 hx'
    have hi : i < p.length := (List.getElem?_eq_some_iff.mp hx').1
    simp only [Nat.zero_add] at k3 k4 k5 k6
    have smt := sm.trans (same_upd (o := .tup [.int (i : Nat), x]) nt)
    obtain ⟨e, he, re⟩ := pr_get (rtl_keep hR smt) (at_getD (i := i) (by rw [syAll_len]; show i < 1 + _; omega))
    have cp := chz_pos (m := us.length) (k := i) hlen2 (by omega)
    have cs := chz_small (m := us.length) (k := i) hlen2 (by omega)
    refine ⟨t, _, rfl, SqT.of upd_same, rfl, _, _, rfl, _, _, rfl, rfl, ?_⟩
    refine ⟨q, rfl, x, rfl, .ref F, rfl, .int (i : Nat), rfl, F, fs, _, e, rfl, rfl, smt.seq hF, at_of (j := i) rfl he, ?_⟩
    refine ⟨.ref b, rfl, b, ys, rfl, .inr (seqT_keep (e1.trans smt) hS2), .int (i : Nat), rfl, us.length, i, by rw [hl2]; rfl, hlen2, by omega, ?_⟩
    refine ⟨1, _, rfl, cp, Nat.lt_trans cs (Nat.pow_lt_pow_right (by decide) (by decide)), fun H3 v3 e3 r3 => ?_⟩
    refine ⟨_, _, _, _, rfl, re.keep e3, r3, k3, k4, fun H4 v4 e4 r4 => ?_⟩
    have s04 := (smt.trans e3).trans e4
    refine ⟨_, _, x', _, rfl, rx.keep (e1.trans s04), r4, k2, k5, fun H5 v5 e5 r5 => ?_⟩
    have s05 := s04.trans e5
    refine ⟨_, _, _, _, rfl, rq.keep ((((same_upd nt).trans e3).trans e4).trans e5), r5, k1, k6, fun H6 v6 e6 r6 => ?_⟩
    refine ⟨_, _, _, rfl, s05.trans e6, ?_⟩
    rw [blIn_take _ _ p 0 0 i x' hx', Nat.zero_add]
    exact r6
  · obtain ⟨q, o4, o5, rfl, sm, rq⟩ := hI
    rw [List.take_of_length_le (l := p) (by omega)] at rq
    exact ⟨_, rfl, hQ _ _ (e1.trans sm) rq⟩
end
end Bc
end
section
set_option Elab.async false
set_option linter.all false
set_option maxRecDepth 100000
set_option maxHeartbeats 4000000
set_option exponentiation.threshold 200000
namespace Bc
open PySem PySem.Spec PyProof.Rows L2
theorem ty_tup {K : PySem.W.Frag} {H : Hp} {a : Addr} {xs : List V} (h : SqT K H a xs) : TyX K H (.ref a) (.type "tuple") := by
  rcases h with (h | ⟨o, h⟩) | ⟨o, its, n, h, hc, _⟩
  · exact .base (.tup h)
  · exact .fTuple h
  · exact .kTuple h hc
theorem ty_int {K : PySem.W.Frag} {H : Hp} (i : Int) : TyX K H (.int i) (.type "int") := .base (.int i)
theorem pe_is {X : Cx} {a : Expr} {ta : TE} {x : Str} {n : String} {p1 p2 pos : Pos} (hi : X.mg "isinstance" = none) (hm : X.mg x = none) (ha : PE X a ta) (hv : bootBuiltins x = some (.type n) := by decide +kernel) (hgi : Gl X "isinstance" := by rfl) (hg : Gl X x := by rfl) (hn : x ≠ "__name__" := by decide) (hd : (x == ("__debug__" : Str)) = false := by decide)
    (hs : starEach (a :: [.Name x p2]) X.env = (false, eval a X.env) :: starEach [.Name x p2] X.env := by rfl) (hs2 : starEach (.Name x p2 :: []) X.env = (false, eval (.Name x p2) X.env) :: starEach [] X.env := by rfl)
    (hpl : (backTo pos (starEach [.Name x p2] X.env)).any (·.1) = false := by rfl) :
    PE X (.Call (.Name "isinstance" p1) [a, .Name x p2] [] pos) (tCB (rIsi X.K) (tCons ta (tCons (tC (.ty n)) tNil))) :=
  pe_callB call_isi hgi hi (by decide +kernel) (pa_cons ha (pa_cons (pe_bltn hg hm hv (show RelV (.ty n) (.type n) from rfl) hn hd) pa_nil hs2) hs) (by decide) (by decide) hs hpl
theorem kit_tt {K : PySem.W.Frag} : PySem.W.kitOne K (.type "tuple") (.type "tuple") = some true := kit_ty (by decide +kernel)
theorem kit_ii {K : PySem.W.Frag} : PySem.W.kitOne K (.type "int") (.type "int") = some true := kit_ty (by decide +kernel)
theorem kit_ib {K : PySem.W.Frag} : PySem.W.kitOne K (.type "int") (.type "bool") = some false := kit_ty (by decide +kernel)
section
variable {P : Program} {w : World} {K : PySem.W.Frag} {mg : Str → Option Value} {base : Heap}
def spIsInt : Sp := fun vs H Q _ => ∃ i, vs = [.int i] ∧ Q (.bl true) H
theorem ok_is_int (T : Top K mg) : Has P w K mg base 1 "is_int" ["value"] spIsInt := by
  refine mk_has T.d_is_int sc_is_int (fun _ _ _ _ _ _ us hl => match us, hl with | [_], _ => rfl) (fun vs H Q E h => by obtain ⟨i, rfl, _⟩ := h; rfl) (fun f cdv A outer s H vs Q E hr h => ?_)
  obtain ⟨i, rfl, hQ⟩ := h
  refine ⟨_, pss_one (ps_ret (pe_and (pe_is (n := "int") T.b_isinstance T.b_int (pv 0)) (pe_one (pe_not (pe_is (n := "bool") T.b_isinstance T.b_bool (pv 0)))))), ?_⟩
  exact ⟨_, rfl, _, _, _, _, true, rfl, .ty _, ty_int i, kit_ii, true, rfl, iteT ⟨_, rfl, _, _, _, _, false, rfl, .ty _, ty_int i, kit_ib, false, rfl, hQ⟩⟩
def spIsFrom : Sp := fun vs H Q _ => ∃ i a b : Int, vs = [.int i, .int a, .int b] ∧ a ≤ i ∧ i ≤ b ∧ Q (.bl true) H
theorem ok_is_from (T : Top K mg) : Has P w K mg base 2 "is_from" ["value", "least", "most"] spIsFrom := by
  refine mk_has T.d_is_from sc_is_from (fun _ _ _ _ _ _ us hl => match us, hl with | [_, _, _], _ => rfl) (fun vs H Q E h => by obtain ⟨i, a, b, rfl, _⟩ := h; rfl) (fun f cdv A outer s H vs Q E hr h => ?_)
  obtain ⟨i, a, b, rfl, h1, h2, hQ⟩ := h
  refine ⟨_, pss_one (ps_ret (pe_and (pf (ok_is_int T) hr (a1 (pv 0))) (pe_one (pe_chain op_le op_le (pv 1) (pv 0) (pv 2))))), ?_⟩
  refine ⟨_, rfl, i, rfl, true, rfl, iteT ⟨_, rfl, _, rfl, _, _, rfl, rfl, _, rfl, ?_⟩⟩
  rw [decide_eq_true h1]
  refine iteT ⟨_, rfl, _, _, rfl, rfl, ?_⟩
  show Q (.bl (decide (i ≤ b))) H
  rw [decide_eq_true h2]; exact hQ
def spIsRatio (K : PySem.W.Frag) : Sp := fun vs H Q _ => ∃ v q, vs = [v] ∧ Rt K H v q ∧ Q (.bl true) H
theorem ok_is_ratio (T : Top K mg) : Has P w K mg base 2 "is_ratio" ["value"] (spIsRatio K) := by
  refine mk_has T.d_is_ratio sc_is_ratio (fun _ _ _ _ _ _ us hl => match us, hl with | [_], _ => rfl) (fun vs H Q E h => by obtain ⟨v, q, rfl, _⟩ := h; rfl) (fun f cdv A outer s H vs Q E hr h => ?_)
  obtain ⟨v, q, rfl, ⟨a, rfl, hS⟩, hQ⟩ := h
  refine ⟨_, pss_cons (ps_if (PW.pt (pw_or (pt_not (pt_val (pe_is (n := "tuple") T.b_isinstance T.b_tuple (pv 0)))) (pw_or (pt_cmpR op_ne (pe_callB call_len_seq (by rfl) T.b_len PySem.boot_len (a1 (pv 0))) pe_int (nomark _))
      (pw_or (pt_not (pt_val (pf (ok_is_int T) hr (a1 (ix 0))))) (pw_or1 (pt_not (pt_val (pf (ok_is_int T) hr (a1 (ix 0)))))))))) (pss_one ps_never) pss_nil)
    (pss_one (ps_ret (pe_and (pe_cmpR op_gt (ix 0) pe_int (nomark _)) (pe_one (pe_cmpR op_eq (pe_callBfun cr_gcd (by rfl) T.gcd (a2 (ix 0) (ix 0))) pe_int (nomark _)))))), ?_⟩
  refine ⟨_, rfl, _, _, _, _, true, rfl, .ty _, ty_tup hS, kit_tt, true, rfl, iteF ⟨_, rfl, a, _, rfl, .inr hS, rfl, false, rfl, iteF ?_⟩⟩
  refine ⟨_, rfl, a, _, 0, _, rfl, rfl, hS, rv_0 q, _, rfl, true, rfl, iteF ?_⟩
  refine ⟨_, rfl, a, _, 1, _, rfl, rfl, hS, rv_1 q, _, rfl, true, rfl, iteF ?_⟩
  refine ⟨_, rfl, a, _, 1, _, rfl, rfl, hS, rv_1 q, _, _, rfl, rfl, _, rfl, ?_⟩
  rw [decide_eq_true (show (0 : Int) < (q.den : Int) by have := q.den_pos; omega)]
  refine iteT ⟨_, rfl, a, _, 0, _, rfl, rfl, hS, rv_0 q, _, rfl, a, _, 1, _, rfl, rfl, hS, rv_1 q, q.num, (q.den : Int), rfl, rfl, ?_⟩
  have e : ((Nat.gcd q.num.natAbs ((q.den : Int)).natAbs : Nat) : Int) = 1 := by
    rw [Int.natAbs_natCast]
    have := q.reduced
    unfold Nat.Coprime at this
    rw [this]; rfl
  show Q (.bl (decide (V.int ((Nat.gcd q.num.natAbs ((q.den : Int)).natAbs : Nat) : Int) = V.int 1))) H
  rw [e]; exact hQ
def spAre (K : PySem.W.Frag) : Sp := fun vs H Q _ => ∃ v p, vs = [v, .int (p.length : Int)] ∧ Pol K H v p ∧ p.length ≤ 1000 ∧ ∀ H', Same H H' → Q (.bl true) H'
theorem ok_are_ratios (T : Top K mg) : Has P w K mg base 3 "are_ratios" ["value", "many"] (spAre K) := by
  refine mk_has T.d_are_ratios sc_are_ratios (fun _ _ _ _ _ _ us hl => match us, hl with | [_, _], _ => rfl) (fun vs H Q E h => by obtain ⟨v, p, rfl, _⟩ := h; rfl) (fun f cdv A outer s H vs Q E hr h => ?_)
  obtain ⟨v, p, rfl, ⟨a, xs, rfl, hS, hP⟩, hlen, hQ⟩ := h
  have hl := Paired.length hP
  refine ⟨_, pss_one (ps_ret (pe_and (pe_is (n := "tuple") T.b_isinstance T.b_tuple (pv 0)) (pe_and (pe_cmpR op_eq (pe_callB call_len_seq (by rfl) T.b_len PySem.boot_len (a1 (pv 0))) (pv 1) (nomark _)) (pe_one (pe_callB (cr_all rfl) (by rfl) T.b_all (by decide +kernel)
    (a1 (pe_lc (own := [("one", 2)]) (g := gName 2) rfl sc_are_ratios.nd (pi_tup (pv 0)) (blkOk_by (own := [("one", 2)]) (N := n_are_ratios) (sc := defScope s_are_ratios) (by decide +kernel))
      (fun _ _ _ _ _ => pg_name (i := 2) sc_are_ratios.nd rfl (Or.inl rfl)) (fun _ _ _ _ _ => pts_nil) (fun _ _ _ _ _ => pf (ok_is_ratio T) hr (a1 (pv 2)))))))))), ?_⟩
  refine ⟨_, rfl, _, _, _, _, true, rfl, .ty _, ty_tup hS, kit_tt, true, rfl, iteT ⟨_, rfl, a, xs, rfl, .inr hS, _, rfl, rfl, _, rfl, ?_⟩⟩
  rw [hl, decide_eq_true rfl]
  refine iteT ⟨.ref a, rfl, a, rfl, ⟨_, hS⟩, fun D hD => lc_tup (xs := xs) (fun i H1 => Same H H1 ∧ H1 D = some (.lst ((List.replicate i true).map V.bl))) ⟨same_upd hD, upd_same⟩ (fun i H1 _ hI => seqT_keep hI.1 hS) (fun i c H1 hc hI => ?_) (fun H1 hI => ?_)⟩
  · obtain ⟨sm, hA⟩ := hI
    obtain ⟨c', hc', rc⟩ := pr_get2 hP hc
    have hi : i < xs.length := (List.getElem?_eq_some_iff.mp hc).1
    refine ⟨rfl, _, rfl, _, c', rfl, rc.keep sm, _, hA, ?_, same_new sm hD, ?_⟩
    · rw [List.length_map, List.length_replicate]; exact sz1 (by omega)
    · rw [upd_same, List.replicate_succ', List.map_append]; rfl
  · obtain ⟨sm, hA⟩ := hI
    refine ⟨D, _, rfl, SqL.of hA, ?_⟩
    have e : (List.replicate xs.length true).all id = true := by
      rw [List.all_eq_true]
      intro x hx
      rw [(List.mem_replicate.mp hx).2]; rfl
    show Q (.bl ((List.replicate xs.length true).all id)) H1
    rw [e]; exact hQ _ sm
/-- knots of a degree, as the program wants them -/
structure KOk (d : Nat) (kn : List Rat) : Prop where
  d4 : d ≤ 4
  lo : 2 * d + 2 ≤ kn.length
  hi : kn.length ≤ 16
  sm : ∀ a ∈ kn, Sm a
  sorted : ∀ i, i + 1 < kn.length → kn.getD i 0 ≤ kn.getD (i + 1) 0
  mult : ∀ i, i + d + 1 < kn.length → kn.getD i 0 ≠ kn.getD (i + d + 1) 0
  first : kn.getD 0 0 = kn.getD d 0
  last : kn.getD (kn.length - 1) 0 = kn.getD (kn.length - d - 1) 0
def spFaults (K : PySem.W.Frag) : Sp := fun vs H Q _ => ∃ v d kn, vs = [.int ((d : Nat) : Int), v] ∧ Pol K H v kn ∧ KOk d kn ∧ ∀ H' a, Same H H' → SqL K H' a [] → Q (.ref a) H'
theorem ok_faults_of (T : Top K mg) : Has P w K mg base 3 "faults_of" ["degree", "value"] (spFaults K) := by
  refine mk_has T.d_faults_of sc_faults_of (fun _ _ _ _ _ _ us hl => match us, hl with | [_, _], _ => rfl) (fun vs H Q E h => by obtain ⟨v, d, p, rfl, _⟩ := h; rfl) (fun f cdv A outer s H vs Q E hr h => ?_)
  obtain ⟨v, d, kn, rfl, ⟨a, xs, rfl, hS, hP⟩, ko, hQ⟩ := h
  obtain ⟨tk, gk⟩ := T.kno
  have hl := Paired.length hP
  have l1 := ko.lo
  have l2 := ko.hi
  refine ⟨_, pss_cons (ps_if (PW.pt (pw_or (pt_not (pt_val (pe_is (n := "tuple") T.b_isinstance T.b_tuple (pv 1)))) (pw_or1 (pt_not (pt_chain op_le op_le (pe_op op_add (pv 0) pe_int) (pe_callB call_len_seq (by rfl) T.b_len PySem.boot_len (a1 (pv 1))) (pe_glob (v := .int 16) (by rfl) gk ⟨_, rfl⟩)))))) (pss_one ps_never) pss_nil)
    (pss_cons (ps_for PassesOwn.never rfl (pi_enumT (by rfl) T.b_enumerate (a1 (pv 1))) (pg_tup rfl (pgs_cons (pg_name (i := 2) sc_faults_of.nd rfl (.inl rfl)) (pgs_cons (pg_name (i := 3) sc_faults_of.nd rfl (.inl rfl)) pgs_nil)))
      (pss_cons (ps_if (PW.pt (pw_or (pt_not (pt_val (pf (ok_is_ratio T) hr (a1 (pv 3))))) (pw_or1 (PW.pt (pw_and (pt_cmpR op_gt (pv 2) pe_int (nomark _)) (pw_and1 (pt_val (pf (ok_is_below T) (hr.mono (by decide)) (a2 (pv 3) (pe_ix ix_tup (pv 1) (pe_op op_sub (pv 2) pe_int) (fun _ _ => rfl))))))))))) (pss_one ps_never) pss_nil)
      (pss_one (ps_if (PW.pt (pw_and (pt_cmpR op_gt (pv 2) (pv 0) (nomark _)) (pw_and1 (pt_cmpR (op_eqD hr.units) (pe_ix ix_tup (pv 1) (pe_op op_sub (pe_op op_sub (pv 2) (pv 0)) pe_int) (fun _ _ => rfl)) (pv 3) (nomark _))))) (pss_one ps_never) pss_nil))))
    (pss_one (ps_ret (pe_lst pa_nil)))), ?_⟩
  refine ⟨_, rfl, _, _, _, _, true, rfl, .ty _, ty_tup hS, kit_tt, true, rfl, iteF ?_⟩
  refine ⟨_, rfl, _, _, rfl, rfl, _, rfl, a, xs, rfl, .inr hS, _, _, rfl, rfl, _, rfl, ?_⟩
  rw [decide_eq_true (show (d : Int) + 2 ≤ (xs.length : Int) by omega)]
  refine iteT ⟨_, _, rfl, rfl, _, rfl, ?_⟩
  rw [decide_eq_true (show (xs.length : Int) ≤ 16 by omega)]
  refine iteF ?_
  refine ⟨_, rfl, a, xs, rfl, hS, for_enumT (xs := xs) (fun i σ H1 => ∃ o2 o3, σ = [some (.int (d : Int)), some (.ref a), o2, o3] ∧ Same H H1) ⟨_, _, rfl, Same.refl _⟩ (fun i σ H1 _ hI => ?_) (fun i x σ H1 t hx hI nt => ?_) (fun σ H1 hI => ?_)⟩
  · obtain ⟨_, _, _, sm⟩ := hI
    exact seqT_keep sm hS
  · obtain ⟨o2, o3, rfl, sm⟩ := hI
    obtain ⟨x', hx', rx⟩ := pr_get2 hP hx
    have hi : i < kn.length := (List.getElem?_eq_some_iff.mp hx').1
    have ex : x' = kn.getD i 0 := (getD_at hx').symm
    have smt := sm.trans (same_upd (o := .tup [.int (i : Nat), x]) nt)
    have fin : ∀ H2, H2 = upd H1 t (.tup [.int (i : Nat), x]) → ∃ o2 o3, [some (V.int (d : Int)), some (.ref a), some (.int (i : Nat)), some x] = [some (.int (d : Int)), some (.ref a), o2, o3] ∧ Same H H2 := fun H2 e => ⟨_, _, rfl, e ▸ smt⟩
    have second : (if decide ((d : Int) < ((i : Nat) : Int)) = true then True else True) := by split <;> trivial
    have sx : Sm x' := ko.sm _ (List.mem_of_getElem? hx')
    refine ⟨t, _, rfl, SqT.of upd_same, rfl, _, _, rfl, _, _, rfl, rfl, ?_⟩
    -- behind the first test
    have rest : ∀ (TS' : Prop), (∀ b, b = false → TS') → TS' := fun _ h => h false rfl
    refine ⟨_, rfl, _, x', rfl, rx.keep smt, true, rfl, iteF ?_⟩
    have tail : tIfS (tAnd (tTest (tOp (rI0 fun i j => V.bl (decide (j < i))) (tVar 2) (tVar 0))) (tTest (tOp (rEqD K) (tOp (rIxT K) (tVar 1) (tOp (rI0 fun i j => V.int (i - j)) (tOp (rI0 fun i j => V.int (i - j)) (tVar 2) (tVar 0)) (tC (.int 1)))) (tVar 3)))) tNever tNext
        { nx := fun σ H1 => ∃ o2 o3, σ = [some (.int (d : Int)), some (.ref a), o2, o3] ∧ Same H H1, rt := Q, bk := fun _ _ => False, ct := fun σ H1 => ∃ o2 o3, σ = [some (.int (d : Int)), some (.ref a), o2, o3] ∧ Same H H1 } [some (V.int (d : Int)), some (.ref a), some (.int (i : Nat)), some x] (upd H1 t (.tup [.int (i : Nat), x])) := by
      refine ⟨_, rfl, _, rfl, _, _, rfl, rfl, _, rfl, ite2 (fun e => ?_) (fun e => ?_)⟩
      · have hdi : d < i := by have := of_decide_eq_true e; omega
        obtain ⟨y, hy, ry⟩ := pr_get hP (at_getD (i := i - d - 1) (by omega))
        refine ⟨_, rfl, _, rfl, _, rfl, _, _, rfl, rfl, _, _, rfl, rfl, a, xs, _, y, rfl, rfl, seqT_keep smt hS, at_of (j := i - d - 1) (by omega) hy, _, rfl, _, _, rD_dp (ry.keep smt), rD_dp (rx.keep smt), rD_shaped _, rD_shaped _, _, rfl, ?_⟩
        rw [rD_eqv, decide_eq_false]
        · exact iteF ⟨_, _, rfl, smt⟩
        · have := ko.mult (i - d - 1) (by omega)
          rw [show i - d - 1 + d + 1 = i by omega] at this
          rw [ex]; exact this
      · exact iteF ⟨_, _, rfl, smt⟩
    refine ⟨_, rfl, _, _, rfl, rfl, _, rfl, ite2 (fun e => ?_) (fun e => ?_)⟩
    · have hi0 : 0 < i := by have := of_decide_eq_true e; omega
      obtain ⟨y, hy, ry⟩ := pr_get hP (at_getD (i := i - 1) (by omega))
      refine ⟨_, rfl, _, rfl, _, rfl, _, _, rfl, rfl, a, xs, _, y, rfl, rfl, seqT_keep smt hS, at_of (j := i - 1) (by omega) hy, _, _, x', _, rfl, rx.keep smt, ry.keep smt, sx, ko.sm _ (List.mem_of_getElem? (at_getD (i := i - 1) (by omega))), _, rfl, ?_⟩
      have hso := ko.sorted (i - 1) (by omega)
      rw [show i - 1 + 1 = i by omega, ← ex] at hso
      rw [decide_eq_false (show ¬ x' < kn.getD (i - 1) 0 by grind)]
      exact iteF tail
    · exact iteF tail
  · obtain ⟨o2, o3, rfl, sm⟩ := hI
    exact ⟨Nat.zero_le _, fun l hl => hQ _ _ (sm.trans (same_upd hl)) (SqL.of upd_same)⟩
end
end Bc
end
section
set_option linter.all false
namespace Bc
/-! ### mirrors of the program's functions on splines -/
/-- knots by their number -/
def tk (kn : List Rat) : Nat → Rat := fun i => kn.getD i 0
def spanN (kn : List Rat) (x : Rat) : Nat → Nat
  | 0 => 0
  | i + 1 => if kn.getD i 0 ≠ kn.getD (i + 1) 0 ∧ ¬ x < kn.getD i 0 then i else spanN kn x i
def span (kn : List Rat) (x : Rat) : Nat := spanN kn x (kn.length - 1)
/-- a piece: its interval, its polynomial -/
abbrev Pc := Rat × Rat × List Rat
def povr (x : Rat) (dflt : List Rat) : List Pc → List Rat
  | [] => dflt
  | (lo, _, p) :: r => if x < lo then povr x dflt r else p
def hdPoly : List Pc → List Rat
  | [] => []
  | p :: _ => p.2.2
def polyOver (pcs : List Pc) (x : Rat) : List Rat := povr x (hdPoly pcs) pcs.reverse
def ln1 (a b : Rat) : List Rat := [(-a) * (1 / (b - a)), 1 / (b - a)]
def ln2 (a b : Rat) : List Rat := [b * (1 / (b - a)), -(1 / (b - a))]
/-- the polynomial of a basis function between two knots -/
def bpoly (t : Nat → Rat) : Nat → Nat → Nat → List Rat
  | 0, i, j => if i = j then [1] else []
  | d + 1, i, j => if t (i + 1) = t (i + d + 2) then (if t i = t (i + d + 1) then [] else ptimes (ln1 (t i) (t (i + d + 1))) (bpoly t d i j))
      else pplus (if t i = t (i + d + 1) then [] else ptimes (ln1 (t i) (t (i + d + 1))) (bpoly t d i j)) (ptimes (ln2 (t (i + 1)) (t (i + d + 2))) (bpoly t d (i + 1) j))
/-- what the line through two knots asks -/
structure LnOk (a b : Rat) : Prop where
  sa : Sm a
  sb : Sm b
  lt : a < b
  sd : Sm (b - a)
  nd : (b - a).num.natAbs < 2 ^ 2400
  sp : Sm (1 / (b - a))
def bpOk (t : Nat → Rat) : Nat → Nat → Nat → Prop
  | 0, _, _ => True
  | d + 1, i, j => (t i ≠ t (i + d + 1) → LnOk (t i) (t (i + d + 1)) ∧ bpOk t d i j ∧ ptimesOk (ln1 (t i) (t (i + d + 1))) (bpoly t d i j)) ∧
      (t (i + 1) ≠ t (i + d + 2) → LnOk (t (i + 1)) (t (i + d + 2)) ∧ bpOk t d (i + 1) j ∧ ptimesOk (ln2 (t (i + 1)) (t (i + d + 2))) (bpoly t d (i + 1) j) ∧
        (∀ a ∈ (if t i = t (i + d + 1) then [] else ptimes (ln1 (t i) (t (i + d + 1))) (bpoly t d i j)), Sm a) ∧ (∀ a ∈ ptimes (ln2 (t (i + 1)) (t (i + d + 2))) (bpoly t d (i + 1) j), Sm a))
/-- the polynomial of a piece: the first r of its coefficients -/
def ppolyN (t c : Nat → Rat) (d j : Nat) : Nat → List Rat
  | 0 => []
  | r + 1 => pplus (ppolyN t c d j r) (pscale (bpoly t d (j - d + r) j) (c (j - d + r)))
def ppoly (t c : Nat → Rat) (d j : Nat) : List Rat := ppolyN t c d j (d + 1)
def ppOk (t c : Nat → Rat) (d j : Nat) : Prop := ∀ r, r < d + 1 → bpOk t d (j - d + r) j ∧ (∀ a ∈ bpoly t d (j - d + r) j, Sm a) ∧ Sm (c (j - d + r)) ∧ (∀ a ∈ ppolyN t c d j r, Sm a) ∧ (∀ a ∈ pscale (bpoly t d (j - d + r) j) (c (j - d + r)), Sm a)
def pcsN (t c : Nat → Rat) (d : Nat) : Nat → List Pc
  | 0 => []
  | j + 1 => if t j = t (j + 1) then pcsN t c d j else pcsN t c d j ++ [(t j, t (j + 1), ppoly t c d j)]
def pieces (kn c : List Rat) (d : Nat) : List Pc := pcsN (tk kn) (tk c) d (kn.length - 1)
def pcsOk (kn c : List Rat) (d : Nat) : Prop := ∀ j, j < kn.length - 1 → tk kn j ≠ tk kn (j + 1) → d ≤ j ∧ j < c.length ∧ ppOk (tk kn) (tk c) d j
/-- the intervals from number i on that are not empty, n of them asked -/
def ivN (t : Nat → Rat) (i : Nat) : Nat → List Nat
  | 0 => []
  | n + 1 => if t (i + n) = t (i + n + 1) then ivN t i n else ivN t i n ++ [i + n]
def firstN (t : Nat → Rat) (i d : Nat) : Nat := (ivN t i (d + 1)).getD 0 0
def wincut (kn : List Rat) (i d : Nat) : List Rat := (kn.drop (i + 1)).take d
def rowN (pcs : List Pc) (d : Nat) (kn : List Rat) : Nat → List Rat
  | 0 => []
  | i + 1 => rowN pcs d kn i ++ [blossom (polyOver pcs (tk kn (firstN (tk kn) i d))) (wincut kn i d)]
def rowFrom (pcs : List Pc) (d : Nat) (kn : List Rat) : List Rat := rowN pcs d kn (kn.length - d - 1)
/-- a knot put in -/
def wkAt (d : Nat) (kn c : List Rat) (x : Rat) (i : Nat) : Rat :=
  if (i : Int) ≤ (span kn x : Int) - d then tk c i else if span kn x < i then tk c (i - 1) else tk c (i - 1) + (x - tk kn i) / (tk kn (i + d) - tk kn i) * (tk c i - tk c (i - 1))
def wkRow (d : Nat) (kn c : List Rat) (x : Rat) : List Rat := (List.range (c.length + 1)).map (wkAt d kn c x)
def wkKn (kn : List Rat) (x : Rat) : List Rat := kn.take (span kn x + 1) ++ x :: kn.drop (span kn x + 1)
/-- orders of agreement: n orders to ask from o on -/
def ordAt (x : Rat) (d : Nat) : Nat → Nat → List Rat → List Rat → Int
  | 0, _, _, _ => d
  | n + 1, o, p, q => if hor x 0 p.reverse ≠ hor x 0 q.reverse then (o : Int) - 1 else ordAt x d n (o + 1) (pslope p) (pslope q)
def ordOk (x : Rat) : Nat → List Rat → List Rat → Prop
  | 0, _, _ => True
  | n + 1, p, q => horOk x 0 p.reverse ∧ horOk x 0 q.reverse ∧ (∀ a ∈ p, Sm a) ∧ (∀ a ∈ q, Sm a) ∧ p.length ≤ 1000 ∧ q.length ≤ 1000 ∧ ordOk x n (pslope p) (pslope q)
def smAt (x : Rat) (d : Nat) : List Pc → Int
  | a :: b :: r => if b.1 = x then ordAt x d (d + 1) 0 a.2.2 b.2.2 else smAt x d (b :: r)
  | _ => d
end Bc
end
section
set_option Elab.async false
set_option linter.all false
set_option maxRecDepth 100000
set_option maxHeartbeats 4000000
set_option exponentiation.threshold 200000
namespace Bc
open PySem PySem.Spec PyProof.Rows L2
theorem atI_neg {α : Type} {xs : List α} {j : Nat} {z : Int} {v : α} (h1 : 1 ≤ j) (h2 : j ≤ xs.length) (e : z = -(j : Int)) (h : xs[xs.length - j]? = some v) : atI xs z = some v := by
  unfold atI ixN
  rw [e, if_neg (by omega), if_pos (by omega)]
  show xs[(-(j : Int) + (xs.length : Int)).toNat]? = some v
  rw [show (-(j : Int) + (xs.length : Int)).toNat = xs.length - j by omega]; exact h
/-- a spline in the heap -/
def SplV (K : PySem.W.Frag) (H : Hp) (v : V) (d : Nat) (kn c : List Rat) : Prop := ∃ a kv rw, v = .ref a ∧ SqT K H a [.int (d : Int), kv, rw] ∧ Pol K H kv kn ∧ Pol K H rw c
theorem SplV.keep {K : PySem.W.Frag} {H H' : Hp} {v : V} {d : Nat} {kn c : List Rat} (h : SplV K H v d kn c) (e : Same H H') : SplV K H' v d kn c :=
  let ⟨a, kv, rw, e1, h1, h2, h3⟩ := h; ⟨a, kv, rw, e1, seqT_keep e h1, h2.keep e, h3.keep e⟩
structure SOk (d : Nat) (kn c : List Rat) : Prop where
  k : KOk d kn
  len : c.length + d + 1 = kn.length
  sm : ∀ a ∈ c, Sm a
section
variable {P : Program} {w : World} {K : PySem.W.Frag} {mg : Str → Option Value} {base : Heap}
def spNeed (K : PySem.W.Frag) : Sp := fun vs H Q _ => ∃ v d kn c, vs = [v] ∧ SplV K H v d kn c ∧ SOk d kn c ∧ ∀ H', Same H H' → Q .non H'
theorem ok_need_spline (T : Top K mg) : Has P w K mg base 4 "need_spline" ["value"] (spNeed K) := by
  refine mk_has T.d_need_spline sc_need_spline (fun _ _ _ _ _ _ us hl => match us, hl with | [_], _ => rfl) (fun vs H Q E h => by obtain ⟨v, d, kn, c, rfl, _⟩ := h; rfl) (fun f cdv A outer s H vs Q E hr h => ?_)
  obtain ⟨v, d, kn, c, rfl, ⟨a, kv, rw', rfl, hS, hk, hc⟩, so, hQ⟩ := h
  obtain ⟨tk, gk⟩ := T.deg
  have l1 := so.k.lo
  have l2 := so.k.hi
  have l3 := so.len
  obtain ⟨ka, kx, rfl, kS, kP⟩ := id hk
  have hkl := Paired.length kP
  refine ⟨_, pss_cons (ps_if (PW.pt (pw_or (pt_not (pt_val (pe_is (n := "tuple") T.b_isinstance T.b_tuple (pv 0)))) (pw_or1 (pt_cmpR op_ne (pe_callB call_len_seq (by rfl) T.b_len PySem.boot_len (a1 (pv 0))) pe_int (nomark _))))) (pss_one ps_never) pss_nil)
    (pss_cons (ps_asg (pv 0) (pg_tup rfl (pgs_cons (pg_name (i := 1) sc_need_spline.nd rfl (.inl rfl)) (pgs_cons (pg_name (i := 2) sc_need_spline.nd rfl (.inl rfl)) (pgs_cons (pg_name (i := 3) sc_need_spline.nd rfl (.inl rfl)) pgs_nil)))))
    (pss_cons (ps_if (pt_not (pt_val (pf (ok_is_from T) (hr.mono (by decide)) (a3 (pv 1) pe_int (pe_glob (v := .int 4) (by rfl) gk ⟨_, rfl⟩))))) (pss_one ps_never) pss_nil)
    (pss_cons (ps_if (PW.pt (pw_or (pt_cmpR (op_neD hr.units) (pf (ok_faults_of T) hr (a2 (pv 1) (pv 2))) (pe_lst pa_nil) (nomark _)) (pw_or1 (pt_cmpR op_lt (pe_callB call_len_seq (by rfl) T.b_len PySem.boot_len (a1 (pv 2))) (pe_op op_add (pe_op op_mul pe_int (pv 1)) pe_int) (nomark _))))) (pss_one ps_never) pss_nil)
    (pss_cons (ps_if (PW.pt (pw_or (pt_cmpR (op_neD hr.units) (pe_ix ix_tup (pv 2) pe_int (fun _ _ => rfl)) (pe_ix ix_tup (pv 2) (pv 1) (fun _ _ => rfl)) (nomark _)) (pw_or1 (pt_cmpR (op_neD hr.units) (pe_ix ix_tup (pv 2) (pe_un un_neg pe_int) (fun _ _ => rfl)) (pe_ix ix_tup (pv 2) (pe_op op_sub (pe_un un_neg (pv 1)) pe_int) (fun _ _ => rfl)) (nomark _))))) (pss_one ps_never) pss_nil)
    (pss_one (ps_if (pt_not (pt_val (pf (ok_are_ratios T) hr (a2 (pv 3) (pe_op op_sub (pe_op op_sub (pe_callB call_len_seq (by rfl) T.b_len PySem.boot_len (a1 (pv 2))) (pv 1)) pe_int))))) (pss_one ps_never) pss_nil)))))), ?_⟩
  refine ⟨_, rfl, _, _, _, _, true, rfl, .ty _, ty_tup hS, kit_tt, true, rfl, iteF ⟨_, rfl, a, _, rfl, .inr hS, rfl, false, rfl, iteF ?_⟩⟩
  refine ⟨_, rfl, a, _, rfl, hS, rfl, _, _, rfl, _, _, rfl, _, _, rfl, rfl, ?_⟩
  have d4 := so.k.d4
  refine ⟨_, rfl, (d : Int), 0, 4, rfl, by omega, by omega, true, rfl, iteF ?_⟩
  refine ⟨_, rfl, _, rfl, _, d, kn, rfl, hk, so.k, fun H1 b e1 hb => ?_⟩
  refine ⟨Nat.zero_le _, fun b2 hb2 => ?_⟩
  refine ⟨.list (([] : List Rat).map rD), .list (([] : List Rat).map rD), .lst ((same_upd hb2).seq hb) .nil, .lst (SqL.of upd_same) .nil, rDl_shaped [], rDl_shaped [], _, rfl, ?_⟩
  rw [rL_eqv]
  have e2 := e1.trans (same_upd (o := .lst []) hb2)
  generalize upd H1 b2 (.lst []) = H2 at e2 ⊢
  have kS2 := seqT_keep e2 kS
  refine iteF ⟨_, rfl, ka, kx, rfl, .inr kS2, _, rfl, _, _, rfl, rfl, .inl ⟨by decide, by decide⟩, _, _, rfl, rfl, _, _, rfl, rfl, _, rfl, ?_⟩
  rw [decide_eq_false (show ¬ ((kx.length : Int) < 2 * (d : Int) + 2) by omega)]
  refine iteF ?_
  have kP2 := rtl_keep kP e2
  obtain ⟨x0, hx0, r0⟩ := pr_get kP2 (at_getD (i := 0) (by omega))
  obtain ⟨x1, hx1, r1⟩ := pr_get kP2 (at_getD (i := d) (by omega))
  obtain ⟨x2, hx2, r2⟩ := pr_get kP2 (at_getD (i := kn.length - 1) (by omega))
  obtain ⟨x3, hx3, r3⟩ := pr_get kP2 (at_getD (i := kn.length - d - 1) (by omega))
  refine ⟨_, rfl, ka, kx, 0, x0, rfl, rfl, kS2, at_of (j := 0) rfl hx0, _, rfl, _, rfl, ka, kx, _, x1, rfl, rfl, kS2, at_of (j := d) rfl hx1, _, _, rD_dp r0, rD_dp r1, rD_shaped _, rD_shaped _, _, rfl, ?_⟩
  rw [rD_eqv, decide_eq_true so.k.first]
  refine iteF ⟨_, rfl, _, rfl, ka, kx, _, x2, rfl, rfl, kS2, atI_neg (j := 1) (by omega) (by omega) rfl (by rw [hkl]; exact hx2), _, rfl, _, rfl, _, rfl, _, _, rfl, rfl, ka, kx, _, x3, rfl, rfl, kS2, atI_neg (j := d + 1) (by omega) (by omega) (by omega) (by rw [hkl, show kn.length - (d + 1) = kn.length - d - 1 by omega]; exact hx3), _, _, rD_dp r2, rD_dp r3, rD_shaped _, rD_shaped _, _, rfl, ?_⟩
  rw [rD_eqv, decide_eq_true so.k.last]
  refine iteF ⟨_, rfl, _, rfl, ka, kx, rfl, .inr kS2, _, rfl, _, _, rfl, rfl, _, _, rfl, rfl, _, c, ?_, hc.keep e2, by omega, fun H3 e3 => ⟨true, rfl, iteF (hQ _ (e2.trans e3))⟩⟩
  show [rw', V.int ((kx.length : Int) - (d : Int) - 1)] = _
  rw [show (kx.length : Int) - (d : Int) - 1 = (c.length : Int) by omega]
def spInner (K : PySem.W.Frag) (r : V) : Sp := fun vs H Q _ => ∃ v x d kn c q, vs = [v, x] ∧ SplV K H v d kn c ∧ SOk d kn c ∧ Rt K H x q ∧ Sm q ∧ kn.getD 0 0 < q ∧ q < kn.getD (kn.length - 1) 0 ∧ Q r H
theorem ok_is_inner (T : Top K mg) : Has P w K mg base 3 "is_inner" ["spline", "x"] (spInner K (.bl true)) := by
  refine mk_has T.d_is_inner sc_is_inner (fun _ _ _ _ _ _ us hl => match us, hl with | [_, _], _ => rfl) (fun vs H Q E h => by obtain ⟨v, x, d, kn, c, q, rfl, _⟩ := h; rfl) (fun f cdv A outer s H vs Q E hr h => ?_)
  obtain ⟨v, x, d, kn, c, q, rfl, ⟨a, kv, rw', rfl, hS, hk, hc⟩, so, hx, sq, h1, h2, hQ⟩ := h
  have l1 := so.k.lo
  obtain ⟨ka, kx, rfl, kS, kP⟩ := id hk
  have hkl := Paired.length kP
  have hlt0 : 0 < kn.length := by omega
  have hlt1 : kn.length - 1 < kn.length := by omega
  obtain ⟨x0, hx0, r0⟩ := pr_get kP (at_getD hlt0)
  obtain ⟨x2, hx2, r2⟩ := pr_get kP (at_getD hlt1)
  refine ⟨_, pss_one (ps_ret (pe_and (pf (ok_is_ratio T) hr (a1 (pv 1))) (pe_and (pf (ok_is_below T) (hr.mono (by decide)) (a2 (pe_ix ix_tup (ix 0) pe_int (fun _ _ => rfl)) (pv 1))) (pe_one (pf (ok_is_below T) (hr.mono (by decide)) (a2 (pv 1) (pe_ix ix_tup (ix 0) (pe_un un_neg pe_int) (fun _ _ => rfl)))))))), ?_⟩
  refine ⟨_, rfl, _, q, rfl, hx, true, rfl, iteT ⟨_, rfl, a, _, 1, _, rfl, rfl, hS, atI_nat (j := 1) rfl, ka, kx, 0, x0, rfl, rfl, kS, at_of (j := 0) rfl hx0, _, rfl, _, _, _, q, rfl, r0, hx, so.k.sm _ (List.mem_of_getElem? (at_getD hlt0)), sq, _, rfl, ?_⟩⟩
  rw [decide_eq_true h1]
  refine iteT ⟨_, rfl, _, rfl, a, _, 1, _, rfl, rfl, hS, atI_nat (j := 1) rfl, _, rfl, ka, kx, _, x2, rfl, rfl, kS, atI_neg (j := 1) (by omega) (by omega) rfl (by rw [hkl]; exact hx2), _, _, q, _, rfl, hx, r2, sq, so.k.sm _ (List.mem_of_getElem? (at_getD hlt1)), ?_⟩
  rw [decide_eq_true h2]; exact hQ
theorem ok_need_inner (T : Top K mg) : Has P w K mg base 4 "need_inner" ["spline", "x"] (spInner K .non) := by
  refine mk_has T.d_need_inner sc_need_inner (fun _ _ _ _ _ _ us hl => match us, hl with | [_, _], _ => rfl) (fun vs H Q E h => by obtain ⟨v, x, d, kn, c, q, rfl, _⟩ := h; rfl) (fun f cdv A outer s H vs Q E hr h => ?_)
  obtain ⟨v, x, d, kn, c, q, rfl, hs, so, hx, sq, h1, h2, hQ⟩ := h
  refine ⟨_, pss_one (ps_if (pt_not (pt_val (pf (ok_is_inner T) hr (a2 (pv 0) (pv 1))))) (pss_one ps_never) pss_nil), ?_⟩
  exact ⟨_, rfl, _, rfl, _, _, d, kn, c, q, rfl, hs, so, hx, sq, h1, h2, true, rfl, iteF hQ⟩
def spSpan (K : PySem.W.Frag) : Sp := fun vs H Q _ => ∃ v x kn q, vs = [v, x] ∧ Pol K H v kn ∧ Rt K H x q ∧ Sm q ∧ (∀ a ∈ kn, Sm a) ∧ kn.length ≤ 1000 ∧ 1 ≤ kn.length ∧ Q (.int (span kn q : Int)) H
theorem ok_span_of (T : Top K mg) : Has P w K mg base 2 "span_of" ["knots", "x"] (spSpan K) := by
  refine mk_has T.d_span_of sc_span_of (fun _ _ _ _ _ _ us hl => match us, hl with | [_, _], _ => rfl) (fun vs H Q E h => by obtain ⟨v, x, kn, q, rfl, _⟩ := h; rfl) (fun f cdv A outer s H vs Q E hr h => ?_)
  obtain ⟨v, x, kn, q, rfl, ⟨a, xs, rfl, hS, hP⟩, hx, sq, sk, l1, l2, hQ⟩ := h
  have hl := Paired.length hP
  refine ⟨_, pss_cons (ps_set (i := 2) sc_span_of.nd rfl (.inl rfl) pe_int)
    (pss_cons (ps_for PassesOwn.never rfl (pi_range1 (by rfl) T.b_range (a1 (pe_op op_sub (pe_callB call_len_seq (by rfl) T.b_len PySem.boot_len (a1 (pv 0))) pe_int))) (pg_name (i := 3) sc_span_of.nd rfl (.inl rfl))
      (pss_one (ps_if (PW.pt (pw_and (pt_cmpR (op_neD hr.units) (pe_ix ix_tup (pv 0) (pv 3) (fun _ _ => rfl)) (pe_ix ix_tup (pv 0) (pe_op op_add (pv 3) pe_int) (fun _ _ => rfl)) (nomark _)) (pw_and1 (pt_not (pt_val (pf (ok_is_below T) hr (a2 (pv 1) (pe_ix ix_tup (pv 0) (pv 3) (fun _ _ => rfl)))))))))
        (pss_one (ps_set (i := 2) sc_span_of.nd rfl (.inl rfl) (pv 3))) pss_nil)))
    (pss_one (ps_ret (pv 2)))), ?_⟩
  refine ⟨_, rfl, a, xs, rfl, .inr hS, _, _, rfl, rfl, _, rfl, by omega, by omega, ?_⟩
  refine for_range (n := ((xs.length : Int) - 1).toNat) (fun i σ H1 => ∃ o, σ = [some (.ref a), some x, some (.int (spanN kn q i : Int)), o] ∧ H1 = H) ⟨_, rfl, rfl⟩ (fun i σ H1 hi hI => ?_) (fun σ H1 hI => ?_)
  · obtain ⟨o, rfl, rfl⟩ := hI
    have i1 : i < kn.length := by omega
    have i2 : i + 1 < kn.length := by omega
    obtain ⟨y0, hy0, r0⟩ := pr_get hP (at_getD i1)
    obtain ⟨y1, hy1, r1⟩ := pr_get hP (at_getD i2)
    refine ⟨_, rfl, _, rfl, a, xs, _, y0, rfl, rfl, hS, at_of (j := i) (by omega) hy0, _, rfl, _, rfl, _, _, rfl, rfl, a, xs, _, y1, rfl, rfl, hS, at_of (j := i + 1) (by omega) hy1, _, _, rD_dp r0, rD_dp r1, rD_shaped _, rD_shaped _, _, rfl, ?_⟩
    rw [rD_eqv]
    have sp1 : spanN kn q (i + 1) = if kn.getD i 0 ≠ kn.getD (i + 1) 0 ∧ ¬ q < kn.getD i 0 then i else spanN kn q i := rfl
    by_cases e : kn.getD i 0 = kn.getD (i + 1) 0
    · rw [decide_eq_true e]
      refine iteF ⟨some (.int (0 + (i : Int))), ?_, rfl⟩
      rw [sp1, if_neg (fun z => z.1 e)]; rfl
    · rw [decide_eq_false e]
      refine iteT ⟨_, rfl, _, rfl, _, rfl, a, xs, _, y0, rfl, rfl, hS, at_of (j := i) (by omega) hy0, _, _, q, _, rfl, hx, r0, sq, sk _ (List.mem_of_getElem? (at_getD i1)), _, rfl, ?_⟩
      by_cases e2 : q < kn.getD i 0
      · rw [decide_eq_true e2]
        refine iteF ⟨some (.int (0 + (i : Int))), ?_, rfl⟩
        rw [sp1, if_neg (fun z => z.2 e2)]; rfl
      · rw [decide_eq_false e2]
        refine iteT ⟨_, rfl, some (.int (0 + (i : Int))), ?_, rfl⟩
        rw [sp1, if_pos ⟨e, e2⟩]
        show [some (V.ref a), some x, some (.int (0 + (i : Int))), some (.int (0 + (i : Int)))] = [some (V.ref a), some x, some (.int (i : Int)), some (.int (0 + (i : Int)))]
        rw [Int.zero_add]
  · obtain ⟨o, rfl, rfl⟩ := hI
    refine ⟨_, rfl, ?_⟩
    have e : ((xs.length : Int) - 1).toNat = kn.length - 1 := by omega
    rw [e]; exact hQ
end
end Bc
end
section
set_option Elab.async false
set_option linter.all false
set_option maxRecDepth 100000
set_option maxHeartbeats 4000000
set_option exponentiation.threshold 200000
namespace Bc
open PySem PySem.Spec PyProof.Rows L2
/-- an interval, a piece, pieces in the heap -/
def IvV (K : PySem.W.Frag) (H : Hp) (v : V) (lo hi : Rat) : Prop := ∃ a l h, v = .ref a ∧ SqT K H a [l, h] ∧ Rt K H l lo ∧ Rt K H h hi
def PcV (K : PySem.W.Frag) (H : Hp) (v : V) (p : Pc) : Prop := ∃ a iv pv, v = .ref a ∧ SqT K H a [iv, pv] ∧ IvV K H iv p.1 p.2.1 ∧ Pol K H pv p.2.2
abbrev PcL (K : PySem.W.Frag) (H : Hp) : List V → List Pc → Prop := Paired (PcV K H)
def Pcs (K : PySem.W.Frag) (H : Hp) (v : V) (ps : List Pc) : Prop := ∃ a vs, v = .ref a ∧ SqT K H a vs ∧ PcL K H vs ps
section
variable {K : PySem.W.Frag} {H H' : Hp} {v : V} {p : Pc} {ps : List Pc} {vs : List V} {lo hi : Rat} {D : Addr} {xs ys : List V}
theorem IvV.keep (h : IvV K H v lo hi) (e : Same H H') : IvV K H' v lo hi := let ⟨a, l, u, e1, h1, h2, h3⟩ := h; ⟨a, l, u, e1, seqT_keep e h1, h2.keep e, h3.keep e⟩
theorem PcV.keep (h : PcV K H v p) (e : Same H H') : PcV K H' v p := let ⟨a, iv, pv, e1, h1, h2, h3⟩ := h; ⟨a, iv, pv, e1, seqT_keep e h1, h2.keep e, h3.keep e⟩
theorem pcl_keep (h : PcL K H vs ps) (e : Same H H') : PcL K H' vs ps := Paired.mapP h fun _ _ x => x.keep e
theorem Pcs.keep (h : Pcs K H v ps) (e : Same H H') : Pcs K H' v ps := let ⟨a, vs, e1, h1, h2⟩ := h; ⟨a, vs, e1, seqT_keep e h1, pcl_keep h2 e⟩
theorem iv_upd (hD : H D = some (.lst xs)) (h : IvV K H v lo hi) : IvV K (upd H D (.lst ys)) v lo hi := let ⟨a, l, u, e1, h1, h2, h3⟩ := h; ⟨a, l, u, e1, seqT_upd hD h1, rt_upd hD h2, rt_upd hD h3⟩
theorem pc_upd (hD : H D = some (.lst xs)) (h : PcV K H v p) : PcV K (upd H D (.lst ys)) v p := let ⟨a, iv, pv, e1, h1, h2, h3⟩ := h; ⟨a, iv, pv, e1, seqT_upd hD h1, iv_upd hD h2, pol_upd hD h3⟩
theorem pcl_upd (hD : H D = some (.lst xs)) (h : PcL K H vs ps) : PcL K (upd H D (.lst ys)) vs ps := Paired.mapP h fun _ _ x => pc_upd hD x
end
theorem povr_drop {x : Rat} {d : List Rat} : ∀ {r : List Pc} {i : Nat} {p : Pc}, r[i]? = some p → povr x d (r.drop i) = if x < p.1 then povr x d (r.drop (i + 1)) else p.2.2
  | [], i, p, h => by simp at h
  | (lo, hi, q) :: r, 0, p, h => by
    simp at h; subst h; rfl
  | a :: r, i + 1, p, h => by
    have := povr_drop (x := x) (d := d) (r := r) (i := i) (p := p) (by simpa using h)
    simpa using this
section
variable {P : Program} {w : World} {K : PySem.W.Frag} {mg : Str → Option Value} {base : Heap}
def spOverP (K : PySem.W.Frag) : Sp := fun vs H Q _ => ∃ u v ps x, vs = [u, v] ∧ Pcs K H u ps ∧ Rt K H v x ∧ Sm x ∧ (∀ p ∈ ps, Sm p.1) ∧ ps ≠ [] ∧ WP K H Q (polyOver ps x)
theorem ok_poly_over (T : Top K mg) : Has P w K mg base 2 "poly_over" ["pieces", "low"] (spOverP K) := by
  refine mk_has T.d_poly_over sc_poly_over (fun _ _ _ _ _ _ us hl => match us, hl with | [_, _], _ => rfl) (fun vs H Q E h => by obtain ⟨u, v, ps, x, rfl, _⟩ := h; rfl) (fun f cdv A outer s H vs Q E hr h => ?_)
  obtain ⟨u, v, ps, x, rfl, ⟨a, xs, rfl, hS, hP⟩, hx, sx, sp, ne, hQ⟩ := h
  have hl := Paired.length hP
  refine ⟨_, pss_cons (ps_for PassesOwn.never rfl (pi_tup (pe_revT (pv 0))) (pg_tup rfl (pgs_cons (pg_name (i := 2) sc_poly_over.nd rfl (.inl rfl)) (pgs_cons (pg_name (i := 3) sc_poly_over.nd rfl (.inl rfl)) pgs_nil)))
      (pss_one (ps_if (pt_not (pt_val (pf (ok_is_below T) hr (a2 (pv 1) (ix 2))))) (pss_one (ps_ret (pv 3))) pss_nil)))
    (pss_one (ps_ret (pe_ix ix_tup (ix 0) pe_int (fun _ _ => rfl)))), ?_⟩
  refine ⟨_, rfl, a, xs, rfl, hS, fun b hb => ?_⟩
  have sb := same_upd (o := .tup xs.reverse) hb
  refine ⟨b, rfl, ⟨_, SqT.of upd_same⟩, for_tup (xs := xs.reverse) (fun i σ H1 => ∃ o2 o3, σ = [some (.ref a), some v, o2, o3] ∧ Same (upd H b (.tup xs.reverse)) H1 ∧ povr x (hdPoly ps) (ps.reverse.drop i) = polyOver ps x) ⟨_, _, rfl, Same.refl _, rfl⟩ (fun i σ H1 _ hI => ?_) (fun i c σ H1 hc hI => ?_) (fun σ H1 hI => ?_)⟩
  · obtain ⟨o2, o3, _, sm, _⟩ := hI
    exact seqT_keep sm (SqT.of upd_same)
  · obtain ⟨o2, o3, rfl, sm, hp⟩ := hI
    obtain ⟨p', hp', rp⟩ := pr_get2 (pr_rev hP) hc
    have sm' := sb.trans sm
    obtain ⟨pa, iv, pv', rfl, pS, ⟨ia, l, h, rfl, iS, rl, rh⟩, rpol⟩ := rp.keep sm'
    rw [povr_drop hp'] at hp
    have spm := sp p' (List.mem_reverse.mp (List.mem_of_getElem? hp'))
    refine ⟨pa, _, rfl, pS, rfl, _, _, rfl, _, _, rfl, rfl, ?_⟩
    refine ⟨_, rfl, _, rfl, ia, _, 0, _, rfl, rfl, iS, atI_nat (j := 0) rfl, _, _, x, _, rfl, hx.keep sm', rl, sx, spm, _, rfl, ?_⟩
    by_cases e : x < p'.1
    · rw [decide_eq_true e]
      rw [if_pos e] at hp
      exact iteF ⟨_, _, rfl, sm, hp⟩
    · rw [decide_eq_false e]
      rw [if_neg e] at hp
      refine iteT ⟨_, rfl, hQ _ _ sm' ?_⟩
      rw [← hp]; exact rpol
  · obtain ⟨o2, o3, rfl, sm, hp⟩ := hI
    have hrl : ps.reverse.drop xs.reverse.length = [] := List.drop_of_length_le (by rw [List.length_reverse, List.length_reverse]; omega)
    rw [hrl] at hp
    cases hP with
    | nil => exact absurd rfl ne
    | @cons y p ys ps' r t =>
      obtain ⟨lo, hi, q⟩ := p
      have sm' := sb.trans sm
      obtain ⟨pa, iv, pv', rfl, pS, _, rpol⟩ := r.keep sm'
      refine ⟨_, rfl, a, _, 0, _, rfl, rfl, seqT_keep sm' hS, atI_nat (j := 0) rfl, pa, _, 1, _, rfl, rfl, pS, atI_nat (j := 1) rfl, hQ _ _ sm' ?_⟩
      rw [← hp]; exact rpol
/-- a polynomial of a basis function; of degree at most n -/
def spBasis (K : PySem.W.Frag) (n : Nat) : Sp := fun vs H Q _ => ∃ (v : V) (kn : List Rat) (d i j : Nat), vs = [.int (d : Int), v, .int (i : Int), .int (j : Int)] ∧ Pol K H v kn ∧ d ≤ n ∧ n ≤ 4 ∧ i + d + 1 < kn.length ∧ bpOk (tk kn) d i j ∧ WP K H Q (bpoly (tk kn) d i j)
theorem spBasis_len {n : Nat} : ∀ vs H Q E, spBasis K n vs H Q E → vs.length = 4 := fun vs H Q E h => by obtain ⟨v, kn, d, i, j, rfl, _⟩ := h; rfl
theorem basis0a {H : Hp} {Q : VK} {y : Addr} (hy : ∀ H, SqT K H y [.int 1, .int 1]) {t : Nat → Rat} {i j : Nat} (hQ : WP K H Q (bpoly t 0 i j)) (e : decide (V.int (i : Int) = V.int (j : Int)) = true) :
    ∀ p, H p = none → Q (.ref p) (upd H p (.tup [V.ref y])) := by
  have e : i = j := by have := V.int.inj (of_decide_eq_true e); omega
  subst e
  intro p hp
  refine hQ _ _ (same_upd hp) ⟨p, _, rfl, SqT.of upd_same, ?_⟩
  show RtL K _ [V.ref y] (if i = i then [1] else [])
  rw [if_pos rfl]; exact .cons (rt_one hy) .nil
theorem basis0b {H : Hp} {Q : VK} {t : Nat → Rat} {i j : Nat} (hQ : WP K H Q (bpoly t 0 i j)) (e : ¬ decide (V.int (i : Int) = V.int (j : Int)) = true) :
    ∀ p, H p = none → Q (.ref p) (upd H p (.tup [])) := by
  have e : i ≠ j := fun z => e (decide_eq_true (by rw [z]))
  intro p hp
  refine hQ _ _ (same_upd hp) ⟨p, _, rfl, SqT.of upd_same, ?_⟩
  show RtL K _ [] (if i = j then [1] else [])
  rw [if_neg e]; exact .nil
theorem bpoly_len (t : Nat → Rat) : ∀ d i j, (bpoly t d i j).length ≤ d + 1 := by
  have tl : ∀ a b q, (ptimes (ln1 a b) q).length ≤ q.length + 1 := fun a b q => by
    unfold ptimes
    split
    · exact Nat.zero_le _
    · rw [mall_len, List.length_replicate]; show 2 + q.length - 1 ≤ _; omega
  have tl2 : ∀ a b q, (ptimes (ln2 a b) q).length ≤ q.length + 1 := fun a b q => by
    unfold ptimes
    split
    · exact Nat.zero_le _
    · rw [mall_len, List.length_replicate]; show 2 + q.length - 1 ≤ _; omega
  have pl : ∀ p q n, p.length ≤ n → q.length ≤ n → (pplus p q).length ≤ n := fun p q n h1 h2 => by
    unfold pplus
    refine Nat.le_trans (trim_len _) ?_
    rw [List.length_zipWith, pad_len p (Nat.le_max_left _ _), pad_len q (Nat.le_max_right _ _)]
    omega
  intro d
  induction d with
  | zero =>
    intro i j
    show (if i = j then [(1 : Rat)] else []).length ≤ 1
    split <;> decide
  | succ d ih =>
    intro i j
    have f1 : (if t i = t (i + d + 1) then [] else ptimes (ln1 (t i) (t (i + d + 1))) (bpoly t d i j)).length ≤ d + 2 := by
      split
      · exact Nat.zero_le _
      · have := tl (t i) (t (i + d + 1)) (bpoly t d i j); have := ih i j; omega
    show (if t (i + 1) = t (i + d + 2) then (if t i = t (i + d + 1) then [] else ptimes (ln1 (t i) (t (i + d + 1))) (bpoly t d i j)) else pplus (if t i = t (i + d + 1) then [] else ptimes (ln1 (t i) (t (i + d + 1))) (bpoly t d i j)) (ptimes (ln2 (t (i + 1)) (t (i + d + 2))) (bpoly t d (i + 1) j))).length ≤ d + 2
    split
    · exact f1
    · refine pl _ _ _ f1 ?_
      have := tl2 (t (i + 1)) (t (i + d + 2)) (bpoly t d (i + 1) j); have := ih (i + 1) j; omega
theorem lt_sub {a b : Rat} (h : a < b) : 0 < b - a := by grind
theorem ok_basis0 (T : Top K mg) : Has P w K mg base 5 "basis_poly" ["degree", "knots", "index", "place"] (spBasis K 0) := by
  refine mk_has T.d_basis_poly sc_basis_poly (fun _ _ _ _ _ _ us hl => match us, hl with | [_, _, _, _], _ => rfl) spBasis_len (fun f cdv A outer s H vs Q E hr h => ?_)
  obtain ⟨v, kn, d, i, j, rfl, hk, hd, _, hi, ok, hQ⟩ := h
  obtain ⟨y, gy, hy⟩ := T.one
  obtain rfl : d = 0 := by omega
  refine ⟨_, pss_cons (ps_if (pt_cmpR op_eq (pv 0) pe_int (nomark _)) (pss_one (ps_ret (pe_ifExp (pt_cmpR op_eq (pv 2) (pv 3) (nomark _)) (pe_tup (a1 (pgl gy))) (pe_tup pa_nil)))) pss_nil) pss_never, ?_⟩
  exact ⟨_, rfl, rfl, true, rfl, iteT ⟨_, rfl, _, rfl, rfl, _, rfl, ite2 (fun e => ⟨(by show 1 ≤ sizeLine; decide), basis0a hy hQ e⟩) (fun e => ⟨Nat.zero_le _, basis0b hQ e⟩)⟩⟩
theorem ok_basisS (T : Top K mg) (n k : Nat) (hk4 : 4 ≤ k) (IH : Has P w K mg base k "basis_poly" ["degree", "knots", "index", "place"] (spBasis K n)) : Has P w K mg base (k + 1) "basis_poly" ["degree", "knots", "index", "place"] (spBasis K (n + 1)) := by
  refine mk_has T.d_basis_poly sc_basis_poly (fun _ _ _ _ _ _ us hl => match us, hl with | [_, _, _, _], _ => rfl) spBasis_len (fun f cdv A outer s H vs Q E hr h => ?_)
  obtain ⟨v, kn, d, i, j, rfl, hk, hd, hn4, hi, ok, hQ⟩ := h
  obtain ⟨y, gy, hy⟩ := T.one
  obtain ⟨ka, xs, rfl, kS, kP⟩ := id hk
  have hl := Paired.length kP
  refine ⟨_, pss_cons (ps_if (pt_cmpR op_eq (pv 0) pe_int (nomark _)) (pss_one (ps_ret (pe_ifExp (pt_cmpR op_eq (pv 2) (pv 3) (nomark _)) (pe_tup (a1 (pgl gy))) (pe_tup pa_nil)))) pss_nil)
    (pss_cons (ps_set (i := 4) sc_basis_poly.nd rfl (.inl rfl) (pe_tup pa_nil))
    (pss_cons (ps_par (i := 5) (j := 6) (by rfl) sc_basis_poly.nd rfl rfl (by decide) rfl rfl (a2 (pe_ix ix_tup (pv 1) (pv 2) (fun _ _ => rfl)) (pe_ix ix_tup (pv 1) (pe_op op_add (pv 2) (pv 0)) (fun _ _ => rfl))) (by rfl))
    (pss_cons (ps_if (pt_cmpR (op_neD hr.units) (pv 5) (pv 6) (nomark _)) (pss_cons (ps_set (i := 7) sc_basis_poly.nd rfl (.inl rfl) (pf (ok_over T) (hr.mono (by omega)) (a2 (pgl gy) (pf (ok_less T) (hr.mono (by omega)) (a2 (pv 6) (pv 5))))))
      (pss_one (ps_set (i := 4) sc_basis_poly.nd rfl (.inl rfl) (pf (ok_p_times T) (hr.mono (by omega)) (a2 (pe_tup (a2 (pf (ok_times T) (hr.mono (by omega)) (a2 (pf (ok_negative T) (hr.mono (by omega)) (a1 (pv 5))) (pv 7))) (pv 7))) (pf IH hr (pa_cons (pe_op op_sub (pv 0) pe_int) (a3 (pv 1) (pv 2) (pv 3))))))))) pss_nil)
    (pss_cons (ps_par (i := 5) (j := 6) (by rfl) sc_basis_poly.nd rfl rfl (by decide) rfl rfl (a2 (pe_ix ix_tup (pv 1) (pe_op op_add (pv 2) pe_int) (fun _ _ => rfl)) (pe_ix ix_tup (pv 1) (pe_op op_add (pe_op op_add (pv 2) (pv 0)) pe_int) (fun _ _ => rfl))) (by rfl))
    (pss_cons (ps_if (pt_cmpR (op_neD hr.units) (pv 5) (pv 6) (nomark _)) (pss_cons (ps_set (i := 7) sc_basis_poly.nd rfl (.inl rfl) (pf (ok_over T) (hr.mono (by omega)) (a2 (pgl gy) (pf (ok_less T) (hr.mono (by omega)) (a2 (pv 6) (pv 5))))))
      (pss_cons (ps_set (i := 8) sc_basis_poly.nd rfl (.inl rfl) (pe_tup (a2 (pf (ok_times T) (hr.mono (by omega)) (a2 (pv 6) (pv 7))) (pf (ok_negative T) (hr.mono (by omega)) (a1 (pv 7))))))
      (pss_one (ps_set (i := 4) sc_basis_poly.nd rfl (.inl rfl) (pf (ok_p_plus T) (hr.mono (by omega)) (a2 (pv 4) (pf (ok_p_times T) (hr.mono (by omega)) (a2 (pv 8) (pf IH hr (pa_cons (pe_op op_sub (pv 0) pe_int) (a3 (pv 1) (pe_op op_add (pv 2) pe_int) (pv 3)))))))))))) pss_nil)
    (pss_one (ps_ret (pv 4)))))))), ?_⟩
  by_cases hd0 : d = 0
  · subst hd0
    exact ⟨_, rfl, rfl, true, rfl, iteT ⟨_, rfl, _, rfl, rfl, _, rfl, ite2 (fun e => ⟨(by show 1 ≤ sizeLine; decide), basis0a hy hQ e⟩) (fun e => ⟨Nat.zero_le _, basis0b hQ e⟩)⟩⟩
  · obtain ⟨e, rfl⟩ : ∃ e, d = e + 1 := ⟨d - 1, by omega⟩
    obtain ⟨ok1, ok2⟩ := ok
    have ne0 : decide (V.int ((e + 1 : Nat) : Int) = V.int 0) = false := decide_eq_false (by intro z; have := V.int.inj z; omega)
    refine ⟨_, rfl, rfl, _, rfl, ?_⟩
    rw [ne0]
    refine iteF ⟨Nat.zero_le _, fun p0 hp0 => ?_⟩
    have s0 := same_upd (o := .tup []) hp0
    have hF0 : Pol K (upd H p0 (.tup [])) (.ref p0) [] := ⟨p0, [], rfl, SqT.of upd_same, .nil⟩
    generalize upd H p0 (.tup []) = H0 at s0 hF0 ⊢
    have i0 : i < kn.length := by omega
    have i1 : i + (e + 1) < kn.length := by omega
    have i2 : i + 1 < kn.length := by omega
    have i3 : i + (e + 1) + 1 < kn.length := by omega
    obtain ⟨y0, hy0, r0⟩ := pr_get kP (at_getD i0)
    obtain ⟨y1, hy1, r1⟩ := pr_get kP (at_getD i1)
    obtain ⟨y2, hy2, r2⟩ := pr_get kP (at_getD i2)
    obtain ⟨y3, hy3, r3⟩ := pr_get kP (at_getD i3)
    refine ⟨_, rfl, _, rfl, ka, xs, _, y0, rfl, rfl, seqT_keep s0 kS, at_of (j := i) rfl hy0, _, rfl, _, rfl, _, rfl, _, _, rfl, rfl, ka, xs, _, y1, rfl, rfl, seqT_keep s0 kS, at_of (j := i + (e + 1)) (by omega) hy1, _, _, rfl, ?_⟩
    -- what stands behind the first part
    have second : ∀ (F : V) (o5 o6 o7 o8 : Option V) (H1 : Hp), Same H H1 → Pol K H1 F (if tk kn i = tk kn (i + e + 1) then [] else ptimes (ln1 (tk kn i) (tk kn (i + e + 1))) (bpoly (tk kn) e i j)) → _ := fun F o5 o6 o7 o8 H1 s1 hF => by
      exact (show (tSeq (tPar 5 6 (tCons (tOp (rIxT K) (tVar 1) (tOp (rI0 fun i j => .int (i + j)) (tVar 2) (tC (.int 1)))) (tCons (tOp (rIxT K) (tVar 1) (tOp (rI0 fun i j => .int (i + j)) (tOp (rI0 fun i j => .int (i + j)) (tVar 2) (tVar 0)) (tC (.int 1)))) tNil)))
        (tSeq (tIfS (tTest (tOp (rNeD K) (tVar 5) (tVar 6)))
          (tSeq (tAsg (tCall (spOver K) [] E0 (tCons (tC (.ref y)) (tCons (tCall (sp2 K fun a b => a - b) [] E0 (tCons (tVar 6) (tCons (tVar 5) tNil))) tNil))) (gName 7))
          (tSeq (tAsg (tTup (tCons (tCall (sp2 K fun a b => a * b) [] E0 (tCons (tVar 6) (tCons (tVar 7) tNil))) (tCons (tCall (spNeg K) [] E0 (tCons (tVar 7) tNil)) tNil))) (gName 8))
            (tAsg (tCall (spPP K pplus) [] E0 (tCons (tVar 4) (tCons (tCall (spTimes K) [] E0 (tCons (tVar 8) (tCons (tCall (spBasis K n) [] E0 (tCons (tOp (rI0 fun i j => .int (i - j)) (tVar 0) (tC (.int 1))) (tCons (tVar 1) (tCons (tOp (rI0 fun i j => .int (i + j)) (tVar 2) (tC (.int 1))) (tCons (tVar 3) tNil))))) tNil))) tNil))) (gName 4)))) tNext)
        (tRet (tVar 4))))
        { nx := fun _ H' => Q .non H', rt := Q } [some (.int ((e + 1 : Nat) : Int)), some (.ref ka), some (.int (i : Int)), some (.int (j : Int)), some F, o5, o6, o7, o8] H1 from by
        refine ⟨_, rfl, _, rfl, _, _, rfl, rfl, ka, xs, _, y2, rfl, rfl, seqT_keep s1 kS, at_of (j := i + 1) (by omega) hy2, _, rfl, _, rfl, _, rfl, _, _, rfl, rfl, _, _, rfl, rfl, ka, xs, _, y3, rfl, rfl, seqT_keep s1 kS, at_of (j := i + (e + 1) + 1) (by omega) hy3, _, _, rfl, ?_⟩
        refine ⟨_, rfl, _, rfl, _, _, rD_dp (r2.keep s1), rD_dp (r3.keep s1), rD_shaped _, rD_shaped _, _, rfl, ?_⟩
        rw [rD_eqv]
        have eb : bpoly (tk kn) (e + 1) i j = if tk kn (i + 1) = tk kn (i + e + 2) then (if tk kn i = tk kn (i + e + 1) then [] else ptimes (ln1 (tk kn i) (tk kn (i + e + 1))) (bpoly (tk kn) e i j)) else pplus (if tk kn i = tk kn (i + e + 1) then [] else ptimes (ln1 (tk kn i) (tk kn (i + e + 1))) (bpoly (tk kn) e i j)) (ptimes (ln2 (tk kn (i + 1)) (tk kn (i + e + 2))) (bpoly (tk kn) e (i + 1) j)) := rfl
        have i5 : i + (e + 1) + 1 = i + e + 2 := by omega
        rw [i5] at r3 ⊢
        by_cases ee : tk kn (i + 1) = tk kn (i + e + 2)
        · rw [decide_eq_true (show kn.getD (i + 1) 0 = kn.getD (i + e + 2) 0 from ee)]
          rw [eb, if_pos ee] at hQ
          exact iteF ⟨_, rfl, hQ _ _ s1 hF⟩
        · rw [decide_eq_false (show ¬ kn.getD (i + 1) 0 = kn.getD (i + e + 2) 0 from ee)]
          rw [eb, if_neg ee] at hQ
          obtain ⟨ln, okb, okt, sf, sp⟩ := ok2 ee
          refine iteT ⟨_, rfl, _, rfl, _, _, _, _, rfl, r3.keep s1, r2.keep s1, ln.sb, ln.sa, fun H2 v2 e2 q2 => ?_⟩
          refine ⟨_, _, 1, _, rfl, rt_one hy, q2, sm_nat (n := 1) (by decide), ln.sd, lt_sub ln.lt, ln.nd, fun H3 v3 e3 q3 => ?_⟩
          have s3 := s1.trans (e2.trans e3)
          refine ⟨_, rfl, _, rfl, _, _, _, _, rfl, r3.keep s3, q3, ln.sb, ln.sp, fun H4 v4 e4 q4 => ?_⟩
          refine ⟨_, rfl, _, _, rfl, q3.keep e4, fun H5 v5 e5 q5 => ?_⟩
          refine ⟨(by show 2 ≤ sizeLine; decide), fun p6 hp6 => ?_⟩
          have s5 := (s3.trans e4).trans e5
          have hln : Pol K (upd H5 p6 (.tup [v4, v5])) (.ref p6) (ln2 (tk kn (i + 1)) (tk kn (i + e + 2))) := ⟨p6, _, rfl, SqT.of upd_same, .cons ((q4.keep e5).keep (same_upd hp6)) (.cons (q5.keep (same_upd hp6)) .nil)⟩
          have s6 := s5.trans (same_upd (o := .tup [v4, v5]) hp6)
          have f6 := (((e2.trans e3).trans e4).trans e5).trans (same_upd (o := .tup [v4, v5]) hp6)
          generalize upd H5 p6 (.tup [v4, v5]) = H6 at hln s6 f6 ⊢
          refine ⟨_, rfl, _, rfl, _, rfl, _, _, rfl, rfl, _, rfl, _, rfl, _, _, rfl, rfl, _, rfl, .ref ka, kn, e, i + 1, j, ?_, hk.keep s6, by omega, by omega, by omega, okb, fun H7 v7 e7 q7 => ?_⟩
          · show [V.int (((e + 1 : Nat) : Int) - 1), .ref ka, .int ((i : Int) + 1), .int (j : Int)] = _
            rw [show ((e + 1 : Nat) : Int) - 1 = (e : Int) by omega]; rfl
          have lb := bpoly_len (tk kn) e (i + 1) j
          refine ⟨_, _, _, _, rfl, hln.keep e7, q7, okt, (by show 2 ≤ 400; decide), by omega, fun H8 v8 e8 q8 => ?_⟩
          have lt1 : (ptimes (ln2 (tk kn (i + 1)) (tk kn (i + e + 2))) (bpoly (tk kn) e (i + 1) j)).length ≤ 1000 := by
            unfold ptimes
            split
            · exact Nat.zero_le _
            · rw [mall_len, List.length_replicate]; show 2 + _ - 1 ≤ _; omega
          have lt2 : (if tk kn i = tk kn (i + e + 1) then [] else ptimes (ln1 (tk kn i) (tk kn (i + e + 1))) (bpoly (tk kn) e i j)).length ≤ 1000 := by
            have lb2 := bpoly_len (tk kn) e i j
            split
            · exact Nat.zero_le _
            · unfold ptimes
              split
              · exact Nat.zero_le _
              · rw [mall_len, List.length_replicate]; show 2 + _ - 1 ≤ _; omega
          refine ⟨_, _, _, _, rfl, hF.keep ((f6.trans e7).trans e8), q8, sf, sp, lt2, lt1, fun H9 v9 e9 q9 => ?_⟩
          exact ⟨_, rfl, hQ _ _ (((s6.trans e7).trans e8).trans e9) q9⟩)
    refine ⟨_, rfl, _, rfl, _, _, rD_dp (r0.keep s0), rD_dp (r1.keep s0), rD_shaped _, rD_shaped _, _, rfl, ?_⟩
    rw [rD_eqv]
    have i6 : i + (e + 1) = i + e + 1 := by omega
    rw [i6] at r1 ⊢
    by_cases ee : tk kn i = tk kn (i + e + 1)
    · rw [decide_eq_true (show kn.getD i 0 = kn.getD (i + e + 1) 0 from ee)]
      refine iteF (second (.ref p0) _ _ _ _ H0 s0 ?_)
      rw [if_pos ee]; exact hF0
    · rw [decide_eq_false (show ¬ kn.getD i 0 = kn.getD (i + e + 1) 0 from ee)]
      obtain ⟨ln, okb, okt⟩ := ok1 ee
      refine iteT ⟨_, rfl, _, rfl, _, _, _, _, rfl, r1.keep s0, r0.keep s0, ln.sb, ln.sa, fun H2 v2 e2 q2 => ?_⟩
      refine ⟨_, _, 1, _, rfl, rt_one hy, q2, sm_nat (n := 1) (by decide), ln.sd, lt_sub ln.lt, ln.nd, fun H3 v3 e3 q3 => ?_⟩
      have s3 := s0.trans (e2.trans e3)
      refine ⟨_, rfl, _, _, rfl, r0.keep s3, fun H4 v4 e4 q4 => ?_⟩
      have sn : Sm (-(kn.getD i 0)) := ⟨by rw [Rat.neg_den]; exact ln.sa.1, by rw [Rat.neg_num, Int.natAbs_neg]; exact ln.sa.2⟩
      refine ⟨_, rfl, _, _, _, _, rfl, q4, q3.keep e4, sn, ln.sp, fun H5 v5 e5 q5 => ?_⟩
      refine ⟨_, rfl, (by show 2 ≤ sizeLine; decide), fun p6 hp6 => ?_⟩
      have s5 := (s3.trans e4).trans e5
      have hln : Pol K (upd H5 p6 (.tup [v5, v3])) (.ref p6) (ln1 (tk kn i) (tk kn (i + e + 1))) := ⟨p6, _, rfl, SqT.of upd_same, .cons (q5.keep (same_upd hp6)) (.cons ((q3.keep (e4.trans e5)).keep (same_upd hp6)) .nil)⟩
      have s6 := s5.trans (same_upd (o := .tup [v5, v3]) hp6)
      generalize upd H5 p6 (.tup [v5, v3]) = H6 at hln s6 ⊢
      refine ⟨_, rfl, _, _, rfl, rfl, _, rfl, _, rfl, _, rfl, .ref ka, kn, e, i, j, ?_, hk.keep s6, by omega, by omega, by omega, okb, fun H7 v7 e7 q7 => ?_⟩
      · show [V.int (((e + 1 : Nat) : Int) - 1), .ref ka, .int (i : Int), .int (j : Int)] = _
        rw [show ((e + 1 : Nat) : Int) - 1 = (e : Int) by omega]
      have lb := bpoly_len (tk kn) e i j
      refine ⟨_, _, _, _, rfl, hln.keep e7, q7, okt, (by show 2 ≤ 400; decide), by omega, fun H8 v8 e8 q8 => ?_⟩
      refine second _ _ _ _ _ H8 ((s6.trans e7).trans e8) ?_
      rw [if_neg ee]; exact q8
end
end Bc
end
section
set_option Elab.async false
set_option linter.all false
set_option maxRecDepth 100000
set_option maxHeartbeats 4000000
namespace Bc
open PySem PySem.Spec PyProof.Rows L2
section
variable {X : Cx}
/-- a tuple display, its object told -/
def tTupF (t : TA) : TE := fun σ H Q => t σ H fun xs H1 => xs.length ≤ sizeLine ∧ ∀ p o, H1 p = none → o.dict = none → Q (.ref p) (upd H1 p (.frz o (.tup xs)))
theorem pe_tupF {es : List Expr} {t : TA} {pos : Pos} {x1} (h : PA X es t) : PE X (.Tuple es x1 pos) (tTupF t) := by
  refine ⟨fun pins s σ H Q I hq => ?_⟩
  refine wpAny_Tuple_spliced (thn (h.run pos pins s σ H _ I hq) fun us s1 ⟨xs, H1, I1, r, z, q⟩ => ⟨by rw [← r.length]; exact z, ?_⟩)
  have hf : H1 s1.heap.objs.size = none := I1.hok.fresh (Nat.le_refl _)
  refine ⟨.ref s1.heap.objs.size, upd H1 s1.heap.objs.size (.frz { cls := .type "tuple", data := .seq us.toArray } (.tup xs)), I1.laid (t' := s1.toks) (fun b u e => Heap.get?_push_of_some _ e) (Nat.le_refl _) ?_, rfl, q _ _ hf rfl⟩
  exact ⟨Heap.get?_push_size _ rfl, z, us, r, ⟨_, Heap.get?_push_size _ rfl, rfl, _, rfl⟩⟩
theorem call_tuple_ofF : CallR X (.type "tuple") (fun xs H Q => ∃ p ys, xs = [.ref p] ∧ SqL X.K H p ys ∧ ∀ l o, H l = none → o.dict = none → Q (.ref l) (upd H l (.frz o (.tup ys)))) := by
  intro pins s σ H xs us Q I r h
  obtain ⟨p, ys, rfl, hq, q⟩ := h
  obtain ⟨u, rfl, rx⟩ := vals1 r
  cases rx
  obtain ⟨its, r', pl, hz⟩ := I.list hq
  have hlen := r'.length
  refine call_tuple_list pl.isList (fun h' kp => ?_) (by simp only [List.size_toArray] <;> omega)
  have I1 : Inv X pins σ H { s with heap := h' } := I.kept (t' := s.toks) kp
  have I2 : Inv X pins σ (upd H h'.objs.size (.frz { cls := .type "tuple", data := .seq its.toArray } (.tup ys))) { s with heap := h'.push { cls := .type "tuple", data := .seq its.toArray } } :=
    I1.laid (t' := s.toks) (fun b o e => Heap.get?_push_of_some _ e) (Nat.le_refl _) ⟨Heap.get?_push_size _ rfl, hz, its, r', IsTup.new _ _⟩
  exact ⟨.ref h'.objs.size, _, I2, rfl, q _ _ (I1.hok.fresh (Nat.le_refl _)) rfl⟩
/-- t.m(..) of a tuple whose object is told -/
def tBMT (r : V → List V → Hp → VK → Prop) (to : TE) (t : TA) : TE := fun σ H Q => to σ H fun x H1 => (∃ a o xs, x = .ref a ∧ H1 a = some (.frz o (.tup xs)) ∧ o.dict = none) ∧ t σ H1 fun xs H2 => r x xs H2 Q
theorem pe_bmT {o e : Expr} {es : List Expr} {to : TE} {t : TA} {name : Str} {apos cpos : Pos} {id : String} {r : V → List V → Hp → VK → Prop}
    (slot : Slot "tuple" name id) (hty : typeOf (.builtin id) = pure (.type "method_descriptor")) (hm : MtR X id r) (ho : PE X o to) (ha : PA X (e :: es) t)
    (hbase : attributeBase o name X.env (eval o X.env) = eval o X.env := by rfl)
    (hfew : ((backTo cpos (starEach (e :: es) X.env)).all (fun x => !x.1) && (backToKw cpos (keywordEach [] X.env)).all (fun x => x.1.isSome)
      && decide ((e :: es).length + ([] : List Keyword).length + (if ([] : List Keyword).isEmpty then 0 else 1) < 30)) = true := by rfl)
    (hline : (apos.endLine == cpos.line) = true := by rfl) (hs : starEach (e :: es) X.env = (false, eval e X.env) :: starEach es X.env := by rfl) (hplain : (backTo cpos (starEach es X.env)).any (·.1) = false := by rfl) :
    PE X (.Call (.Attribute o name apos) (e :: es) [] cpos) (tBMT r to t) := by
  refine ⟨fun pins s σ H Q I h => ?_⟩
  refine wpAny_Call_method_late hbase hfew hline rfl (thn (ho.run pins s σ H _ I h) fun v s1 ⟨x, H1, I1, r1, ty, q1⟩ => ?_)
  obtain ⟨a, ob, ys, rfl, hH, hd⟩ := ty
  cases r1
  obtain ⟨e1, hz, its, rv', o2, e2, hc, n, hdt⟩ := (show ObjOk X.prog X.w H1 s1.heap a (.frz ob (.tup ys)) from I1.hok a _ hH)
  have eo : ob = o2 := Option.some.inj (e1.symm.trans e2)
  have h1 : s1.TypeIs (.ref a) "tuple" := ⟨ob, e1, by rw [eo]; exact hc⟩
  refine ⟨"tuple", id, PySem.F.plainAttrs_tuple, slot, hty, h1, fun b e => by cases e; exact ⟨ob, e1, hd⟩, ?_⟩
  have hA := ha.run cpos pins s1 σ H1 _ I1 q1
  rw [hs] at hA ⊢
  refine Calls.callWith_builtin (by show (false || (backTo cpos (starEach es X.env)).any (·.1)) = false; rw [hplain] <;> rfl) (Calls.evalArgs_plain ?_)
  exact thn hA fun us s2 ⟨vs, H2, I2, r2, q2⟩ => hm pins s2 σ H2 (.ref a) vs (.ref a) us Q I2 rfl r2 q2
end
/-! ### slices and sums of tuples, in short -/
section
variable {K : PySem.W.Frag} {H : Hp} {Q : VK} {a b : Addr} {xs ys : List V} {lo hi : Option Int}
theorem sl_any (hS : SqT K H a xs) (h : ∀ H' p, Same H H' → SqT K H' p (cutV xs lo hi) → Q (.ref p) H') : rSlA K (.ref a) lo hi H Q := by
  refine ⟨a, xs, rfl, hS, fun hw => ?_, fun _ p hp => h _ p (same_upd hp) (SqT.of upd_same)⟩
  refine h H a (Same.refl H) ?_
  unfold cutV
  rw [hw.1, hw.2, Nat.sub_zero, List.drop_zero, List.take_length]; exact hS
theorem cat_any (hS : SqT K H a xs) (hS2 : SqT K H b ys) (hz : xs.length + ys.length ≤ sizeLine) (h : ∀ H' p, Same H H' → SqT K H' p (xs ++ ys) → Q (.ref p) H') : rCatA K (.ref a) (.ref b) H Q := by
  refine ⟨a, b, xs, ys, rfl, rfl, hS, hS2, hz, fun e => h H b (Same.refl H) (by rw [e]; exact hS2), fun _ e => h H a (Same.refl H) (by rw [e, List.append_nil]; exact hS), fun _ _ p hp => h _ p (same_upd hp) (SqT.of upd_same)⟩
theorem cutV_mid (xs : List V) (i j : Nat) (h : i ≤ j) (hj : j ≤ xs.length) : cutV xs (some (i : Int)) (some (j : Int)) = (xs.drop i).take (j - i) := by
  unfold cutV
  rw [show HT.sIx xs.length 0 (some (i : Int)) = min i xs.length from HT.sIx_nat _ _ _, show HT.sIx xs.length xs.length (some (j : Int)) = min j xs.length from HT.sIx_nat _ _ _, Nat.min_eq_left hj, Nat.min_eq_left (Nat.le_trans h hj)]
end
/-- knots whose object is told -/
def Kn (K : PySem.W.Frag) (H : Hp) (v : V) (p : List Rat) : Prop := ∃ a o xs, v = .ref a ∧ H a = some (.frz o (.tup xs)) ∧ o.dict = none ∧ RtL K H xs p
theorem Kn.pol {K : PySem.W.Frag} {H : Hp} {v : V} {p : List Rat} (h : Kn K H v p) : Pol K H v p := let ⟨a, o, xs, e, h1, _, h2⟩ := h; ⟨a, xs, e, .inl (.inr ⟨o, h1⟩), h2⟩
theorem Kn.keep {K : PySem.W.Frag} {H H' : Hp} {v : V} {p : List Rat} (h : Kn K H v p) (e : Same H H') : Kn K H' v p := let ⟨a, o, xs, e1, h1, h2, h3⟩ := h; ⟨a, o, xs, e1, e _ _ h1, h2, rtl_keep h3 e⟩
/-- .. a spline with such knots -/
def SplF (K : PySem.W.Frag) (H : Hp) (v : V) (d : Nat) (kn c : List Rat) : Prop := ∃ a kv rw, v = .ref a ∧ SqT K H a [.int (d : Int), kv, rw] ∧ Kn K H kv kn ∧ Pol K H rw c
theorem SplF.spl {K : PySem.W.Frag} {H : Hp} {v : V} {d : Nat} {kn c : List Rat} (h : SplF K H v d kn c) : SplV K H v d kn c := let ⟨a, kv, rw, e, h1, h2, h3⟩ := h; ⟨a, kv, rw, e, h1, h2.pol, h3⟩
theorem SplF.keep {K : PySem.W.Frag} {H H' : Hp} {v : V} {d : Nat} {kn c : List Rat} (h : SplF K H v d kn c) (e : Same H H') : SplF K H' v d kn c :=
  let ⟨a, kv, rw, e1, h1, h2, h3⟩ := h; ⟨a, kv, rw, e1, seqT_keep e h1, h2.keep e, h3.keep e⟩
end Bc
end
section
set_option Elab.async false
set_option linter.all false
set_option maxRecDepth 100000
set_option maxHeartbeats 4000000
set_option exponentiation.threshold 200000
namespace Bc
open PySem PySem.Spec PyProof.Rows L2
theorem pplus_len (p q : List Rat) {n : Nat} (h1 : p.length ≤ n) (h2 : q.length ≤ n) : (pplus p q).length ≤ n := by
  unfold pplus
  refine Nat.le_trans (trim_len _) ?_
  rw [List.length_zipWith, pad_len p (Nat.le_max_left _ _), pad_len q (Nat.le_max_right _ _)]
  omega
theorem pscale_len (p : List Rat) (k : Rat) : (pscale p k).length ≤ p.length := by
  unfold pscale
  refine Nat.le_trans (trim_len _) ?_
  rw [List.length_map]; exact Nat.le_refl _
theorem ppolyN_len (t c : Nat → Rat) (d j : Nat) : ∀ r, (ppolyN t c d j r).length ≤ d + 1
  | 0 => Nat.zero_le _
  | r + 1 => pplus_len _ _ (ppolyN_len t c d j r) (Nat.le_trans (pscale_len _ _) (bpoly_len t d _ j))
theorem pcsN_len (t c : Nat → Rat) (d : Nat) : ∀ n, (pcsN t c d n).length ≤ n
  | 0 => Nat.le_refl 0
  | n + 1 => by
    have := pcsN_len t c d n
    show (if t n = t (n + 1) then pcsN t c d n else pcsN t c d n ++ [(t n, t (n + 1), ppoly t c d n)]).length ≤ n + 1
    split
    · omega
    · rw [List.length_append]; show _ + 1 ≤ _; omega
theorem ivN_len (t : Nat → Rat) (i : Nat) : ∀ n, (ivN t i n).length ≤ n
  | 0 => Nat.le_refl 0
  | n + 1 => by
    have := ivN_len t i n
    show (if t (i + n) = t (i + n + 1) then ivN t i n else ivN t i n ++ [i + n]).length ≤ n + 1
    split
    · omega
    · rw [List.length_append]; show _ + 1 ≤ _; omega
theorem ivN_mem {t : Nat → Rat} {i : Nat} : ∀ {n q : Nat}, q ∈ ivN t i n → i ≤ q ∧ q < i + n ∧ t q ≠ t (q + 1)
  | 0, q, h => by cases h
  | n + 1, q, h => by
    have h' : q ∈ (if t (i + n) = t (i + n + 1) then ivN t i n else ivN t i n ++ [i + n]) := h
    split at h'
    · obtain ⟨a, b, c⟩ := ivN_mem h'; exact ⟨a, by omega, c⟩
    · rename_i e
      rcases List.mem_append.mp h' with h2 | h2
      · obtain ⟨a, b, c⟩ := ivN_mem h2; exact ⟨a, by omega, c⟩
      · obtain rfl := List.mem_singleton.mp h2
        exact ⟨by omega, by omega, e⟩
section
variable {P : Program} {w : World} {K : PySem.W.Frag} {mg : Str → Option Value} {base : Heap}
theorem ok_basis4 (T : Top K mg) : Has P w K mg base 9 "basis_poly" ["degree", "knots", "index", "place"] (spBasis K 4) :=
  ok_basisS T 3 8 (by omega) (ok_basisS T 2 7 (by omega) (ok_basisS T 1 6 (by omega) (ok_basisS T 0 5 (by omega) (ok_basis0 T))))
def spPieces (K : PySem.W.Frag) : Sp := fun vs H Q _ => ∃ v d kn c, vs = [v] ∧ SplV K H v d kn c ∧ d ≤ 4 ∧ kn.length ≤ 16 ∧ 1 ≤ kn.length ∧ c.length + d + 1 = kn.length ∧ pcsOk kn c d ∧ ∀ H' v', Same H H' → Pcs K H' v' (pieces kn c d) → Q v' H'
theorem ok_pieces_of (T : Top K mg) : Has P w K mg base 10 "pieces_of" ["spline"] (spPieces K) := by
  refine mk_has T.d_pieces_of sc_pieces_of (fun _ _ _ _ _ _ us hl => match us, hl with | [_], _ => rfl) (fun vs H Q E h => by obtain ⟨v, d, kn, c, rfl, _⟩ := h; rfl) (fun f cdv A outer s H vs Q E hr h => ?_)
  obtain ⟨v, d, kn, c, rfl, ⟨a, kv, rw', rfl, hS, hk, hc⟩, d4, l2, l1, l3, ok, hQ⟩ := h
  obtain ⟨ka, kx, rfl, kS, kP⟩ := id hk
  obtain ⟨ra, rx, rfl, rS, rP⟩ := id hc
  have hkl := Paired.length kP
  have hrl := Paired.length rP
  refine ⟨_, pss_cons (ps_asg (pv 0) (pg_tup rfl (pgs_cons (pg_name (i := 1) sc_pieces_of.nd rfl (.inl rfl)) (pgs_cons (pg_name (i := 2) sc_pieces_of.nd rfl (.inl rfl)) (pgs_cons (pg_name (i := 3) sc_pieces_of.nd rfl (.inl rfl)) pgs_nil)))))
    (pss_cons (ps_set (i := 4) sc_pieces_of.nd rfl (.inl rfl) (pe_lst pa_nil))
    (pss_cons (ps_for PassesOwn.never rfl (pi_range1 (by rfl) T.b_range (a1 (pe_op op_sub (pe_callB call_len_seq (by rfl) T.b_len PySem.boot_len (a1 (pv 2))) pe_int))) (pg_name (i := 5) sc_pieces_of.nd rfl (.inl rfl))
      (pss_one (ps_if (pt_cmpR (op_neD hr.units) (pe_ix ix_tup (pv 2) (pv 5) (fun _ _ => rfl)) (pe_ix ix_tup (pv 2) (pe_op op_add (pv 5) pe_int) (fun _ _ => rfl)) (nomark _))
        (pss_cons (ps_set (i := 6) sc_pieces_of.nd rfl (.inl rfl) (pe_tup pa_nil))
        (pss_cons (ps_for PassesOwn.never rfl (pi_range2 (by rfl) T.b_range (a2 (pe_op op_sub (pv 5) (pv 1)) (pe_op op_add (pv 5) pe_int))) (pg_name (i := 7) sc_pieces_of.nd rfl (.inl rfl))
          (pss_one (ps_set (i := 6) sc_pieces_of.nd rfl (.inl rfl) (pf (ok_p_plus T) (hr.mono (by decide)) (a2 (pv 6) (pf (ok_p_scaled T) (hr.mono (by decide)) (a2 (pf (ok_basis4 T) hr (pa_cons (pv 1) (a3 (pv 2) (pv 7) (pv 5)))) (pe_ix ix_tup (pv 3) (pv 7) (fun _ _ => rfl)))))))))
        (pss_one (ps_expr (pe_bm PySem.F.plainAttrs_list PySem.F.slot_list_append PySem.F.type_list_append mt_append (pv 4) (a1 (pe_tup (a2 (pe_tup (a2 (pe_ix ix_tup (pv 2) (pv 5) (fun _ _ => rfl)) (pe_ix ix_tup (pv 2) (pe_op op_add (pv 5) pe_int) (fun _ _ => rfl)))) (pv 6)))))))))
        pss_nil)))
    (pss_one (ps_ret (pe_callTy call_tuple_of (by rfl) T.b_tuple (by decide +kernel) (a1 (pv 4))))))), ?_⟩
  refine ⟨_, rfl, a, _, rfl, hS, rfl, _, _, rfl, _, _, rfl, _, _, rfl, rfl, ?_⟩
  refine ⟨Nat.zero_le _, fun D hD => ?_⟩
  have sD := same_upd (o := .lst []) hD
  refine ⟨_, rfl, ka, kx, rfl, .inr (seqT_keep sD kS), _, _, rfl, rfl, _, rfl, by omega, by omega, ?_⟩
  refine for_range (n := ((kx.length : Int) - 1).toNat) (fun i σ H1 => ∃ o5 o6 o7 acc, σ = [some (.ref a), some (.int (d : Int)), some (.ref ka), some (.ref ra), some (.ref D), o5, o6, o7] ∧ Same H H1 ∧ H1 D = some (.lst acc) ∧ PcL K H1 acc (pcsN (tk kn) (tk c) d i)) ⟨_, _, _, [], rfl, sD, upd_same, .nil⟩ (fun i σ H1 hi hI => ?_) (fun σ H1 hI => ?_)
  · obtain ⟨o5, o6, o7, acc, rfl, sm, hA, hR⟩ := hI
    have i1 : i < kn.length := by omega
    have i2 : i + 1 < kn.length := by omega
    obtain ⟨y0, hy0, r0⟩ := pr_get (rtl_keep kP sm) (at_getD i1)
    obtain ⟨y1, hy1, r1⟩ := pr_get (rtl_keep kP sm) (at_getD i2)
    have kS1 := seqT_keep sm kS
    have hpl := pcsN_len (tk kn) (tk c) d i
    have hal := Paired.length hR
    refine ⟨_, rfl, _, rfl, ka, kx, _, y0, rfl, rfl, kS1, at_of (j := i) (by omega) hy0, _, rfl, _, rfl, _, _, rfl, rfl, ka, kx, _, y1, rfl, rfl, kS1, at_of (j := i + 1) (by omega) hy1, _, _, rD_dp r0, rD_dp r1, rD_shaped _, rD_shaped _, _, rfl, ?_⟩
    rw [rD_eqv]
    have ps1 : pcsN (tk kn) (tk c) d (i + 1) = if tk kn i = tk kn (i + 1) then pcsN (tk kn) (tk c) d i else pcsN (tk kn) (tk c) d i ++ [(tk kn i, tk kn (i + 1), ppoly (tk kn) (tk c) d i)] := rfl
    by_cases e : tk kn i = tk kn (i + 1)
    · rw [decide_eq_true (show kn.getD i 0 = kn.getD (i + 1) 0 from e)]
      refine iteF ⟨_, _, _, acc, rfl, sm, hA, ?_⟩
      rw [ps1, if_pos e]; exact hR
    · rw [decide_eq_false (show ¬ kn.getD i 0 = kn.getD (i + 1) 0 from e)]
      obtain ⟨hdi, hic, okp⟩ := ok i (by omega) e
      refine iteT ⟨Nat.zero_le _, fun p6 hp6 => ?_⟩
      have s6 := same_upd (o := .tup []) hp6
      have hP6 : Pol K (upd H1 p6 (.tup [])) (.ref p6) [] := ⟨p6, [], rfl, SqT.of upd_same, .nil⟩
      generalize upd H1 p6 (.tup []) = H6 at s6 hP6 ⊢
      refine ⟨_, rfl, _, rfl, _, _, rfl, rfl, _, rfl, _, _, rfl, rfl, _, _, rfl, ⟨by omega, by omega, by omega, by omega⟩, ?_⟩
      have hn : (0 + (i : Int) + 1 - (0 + (i : Int) - (d : Int))).toNat = d + 1 := by omega
      refine for_range (n := (0 + (i : Int) + 1 - (0 + (i : Int) - (d : Int))).toNat) (fun r σ H2 => ∃ q o7, σ = [some (.ref a), some (.int (d : Int)), some (.ref ka), some (.ref ra), some (.ref D), some (.int (0 + (i : Int))), some q, o7] ∧ Same H1 H2 ∧ Pol K H2 q (ppolyN (tk kn) (tk c) d i r)) ⟨_, _, rfl, s6, hP6⟩ (fun r σ H2 hr2 hI => ?_) (fun σ H2 hI => ?_)
      · obtain ⟨q, o7, rfl, sm2, hq⟩ := hI
        obtain ⟨b1, b2, b3, b4, b5⟩ := okp r (by omega)
        have s12 := sm.trans sm2
        have hix : i - d + r < c.length := by omega
        obtain ⟨y, hy, ry⟩ := pr_get (rtl_keep rP s12) (at_getD hix)
        have lb := bpoly_len (tk kn) d (i - d + r) i
        refine ⟨_, rfl, _, rfl, _, rfl, _, rfl, _, rfl, .ref ka, kn, d, i - d + r, i, ?_, hk.keep s12, d4, by omega, by omega, b1, fun H3 v3 e3 q3 => ?_⟩
        · show [V.int (d : Int), .ref ka, .int (0 + (i : Int) - (d : Int) + (r : Int)), .int (0 + (i : Int))] = _
          rw [show 0 + (i : Int) - (d : Int) + (r : Int) = ((i - d + r : Nat) : Int) by omega, Int.zero_add]
        · refine ⟨_, rfl, _, rfl, ra, rx, _, y, rfl, rfl, seqT_keep (s12.trans e3) rS, at_of (j := i - d + r) (by omega) hy, ?_⟩
          refine ⟨_, _, _, _, rfl, q3, ry.keep e3, b3, b2, by omega, fun H4 v4 e4 q4 => ?_⟩
          have lp := pscale_len (bpoly (tk kn) d (i - d + r) i) (tk c (i - d + r))
          refine ⟨_, _, _, _, rfl, hq.keep (e3.trans e4), q4, b4, b5, Nat.le_trans (ppolyN_len _ _ _ _ r) (by omega), Nat.le_trans lp (by omega), fun H5 v5 e5 q5 => ?_⟩
          exact ⟨_, _, rfl, ((sm2.trans e3).trans e4).trans e5, q5⟩
      · obtain ⟨q, o7, rfl, sm2, hq⟩ := hI
        rw [hn] at hq
        have s12 := sm.trans sm2
        refine ⟨_, rfl, .inl ⟨rfl, _, SqL.of (sm2 _ _ hA)⟩, _, rfl, _, rfl, ka, kx, _, y0, rfl, rfl, seqT_keep s12 kS, at_of (j := i) (by omega) hy0, _, rfl, _, rfl, _, _, rfl, rfl, ka, kx, _, y1, rfl, rfl, seqT_keep s12 kS, at_of (j := i + 1) (by omega) hy1, (by show 2 ≤ sizeLine; decide), fun t1 ht1 => ?_⟩
        refine ⟨_, rfl, (by show 2 ≤ sizeLine; decide), fun t2 ht2 => ?_⟩
        have st := (same_upd (o := .tup [y0, y1]) ht1).trans (same_upd (o := .tup [.ref t1, q]) ht2)
        have hA2 := st _ _ (sm2 _ _ hA)
        refine ⟨D, acc, _, rfl, rfl, hA2, sz1 (by omega), ?_⟩
        refine ⟨_, _, _, _, rfl, same_new (s12.trans st) hD, upd_same, ?_⟩
        rw [ps1, if_neg e]
        refine pr_append (pcl_upd hA2 (pcl_keep hR (sm2.trans st))) (.cons (pc_upd hA2 ⟨t2, .ref t1, q, rfl, SqT.of upd_same, ?_, hq.keep st⟩) .nil)
        exact ⟨t1, y0, y1, rfl, seqT_keep (same_upd ht2) (SqT.of upd_same), r0.keep (sm2.trans st), r1.keep (sm2.trans st)⟩
  · obtain ⟨o5, o6, o7, acc, rfl, sm, hA, hR⟩ := hI
    have hn : ((kx.length : Int) - 1).toNat = kn.length - 1 := by omega
    rw [hn] at hR
    refine ⟨_, rfl, D, acc, rfl, .inl ⟨SqL.of hA, fun l hl => hQ _ _ (sm.trans (same_upd hl)) ⟨l, acc, rfl, SqT.of upd_same, pcl_keep hR (same_upd hl)⟩⟩⟩
def spSPieces (K : PySem.W.Frag) : Sp := fun vs H Q _ => ∃ v d kn c, vs = [v] ∧ SplV K H v d kn c ∧ SOk d kn c ∧ pcsOk kn c d ∧ ∀ H' v', Same H H' → Pcs K H' v' (pieces kn c d) → Q v' H'
theorem ok_spline_pieces (T : Top K mg) : Has P w K mg base 11 "spline_pieces" ["spline"] (spSPieces K) := by
  refine mk_has T.d_spline_pieces sc_spline_pieces (fun _ _ _ _ _ _ us hl => match us, hl with | [_], _ => rfl) (fun vs H Q E h => by obtain ⟨v, d, kn, c, rfl, _⟩ := h; rfl) (fun f cdv A outer s H vs Q E hr h => ?_)
  obtain ⟨v, d, kn, c, rfl, hs, so, ok, hQ⟩ := h
  refine ⟨_, pss_cons (ps_expr (pf (ok_need_spline T) (hr.mono (by decide)) (a1 (pv 0)))) (pss_one (ps_ret (pf (ok_pieces_of T) hr (a1 (pv 0))))), ?_⟩
  have l1 := so.k.lo
  refine ⟨_, rfl, v, d, kn, c, rfl, hs, so, fun H1 e1 => ⟨_, rfl, v, d, kn, c, rfl, hs.keep e1, so.k.d4, so.k.hi, by omega, so.len, ok, fun H2 v2 e2 q2 => hQ _ _ (e1.trans e2) q2⟩⟩
end
end Bc
end
section
set_option Elab.async false
set_option linter.all false
set_option maxRecDepth 100000
set_option maxHeartbeats 4000000
set_option exponentiation.threshold 200000
namespace Bc
open PySem PySem.Spec PyProof.Rows L2
structure RowOk (ps : List Pc) (d : Nat) (kn : List Rat) : Prop where
  ne : ps ≠ []
  sp : ∀ p ∈ ps, Sm p.1
  sk : ∀ a ∈ kn, Sm a
  d4 : d ≤ 4
  lo : d + 1 ≤ kn.length
  hi : kn.length ≤ 16
  iv : ∀ i, i < kn.length - d - 1 → ivN (tk kn) i (d + 1) ≠ []
  ok : ∀ i, i < kn.length - d - 1 → blossomOk (polyOver ps (tk kn (firstN (tk kn) i d))) (wincut kn i d) ∧ (polyOver ps (tk kn (firstN (tk kn) i d))).length ≤ d + 1
theorem sl_from {K : PySem.W.Frag} {H : Hp} {Q : VK} {a : Addr} {xs : List V} {n : Int} {σ : L2.St} (hS : SqT K H a xs) (h : ∀ H' p, Same H H' → SqT K H' p (cutV xs (some n) none) → Q (.ref p) H') : tNoPart σ H (fun u H3 => rSlA K (.ref a) (some n) u H3 Q) := sl_any hS h
theorem wincut_len {kn : List Rat} {i d : Nat} (h : i + d + 1 ≤ kn.length) : (wincut kn i d).length = d := by
  unfold wincut
  rw [List.length_take, List.length_drop]; omega
/-- what a knot put in asks of the numbers -/
structure WkOk (d : Nat) (kn c : List Rat) (x : Rat) : Prop where
  sx : Sm x
  len : c.length + d + 1 = kn.length
  hi : kn.length ≤ 900
  sk : ∀ a ∈ kn, Sm a
  sc : ∀ a ∈ c, Sm a
  sp1 : span kn x < kn.length
  mid : ∀ i, i < c.length + 1 → ¬ ((i : Int) ≤ (span kn x : Int) - d) → ¬ span kn x < i → 1 ≤ i ∧ i < c.length ∧ i + d < kn.length ∧ Sm (x - tk kn i) ∧ tk kn i < tk kn (i + d) ∧ Sm (tk kn (i + d) - tk kn i) ∧ (tk kn (i + d) - tk kn i).num.natAbs < 2 ^ 2400 ∧
    Sm ((x - tk kn i) / (tk kn (i + d) - tk kn i)) ∧ Sm (tk c i - tk c (i - 1)) ∧ Sm ((x - tk kn i) / (tk kn (i + d) - tk kn i) * (tk c i - tk c (i - 1)))
  low : ∀ i, i < c.length + 1 → (i : Int) ≤ (span kn x : Int) - d → i < c.length
section
variable {P : Program} {w : World} {K : PySem.W.Frag} {mg : Str → Option Value} {base : Heap}
def spRowFrom (K : PySem.W.Frag) : Sp := fun vs H Q _ => ∃ u ps d v kn, vs = [u, .int ((d : Nat) : Int), v] ∧ Pcs K H u ps ∧ Pol K H v kn ∧ RowOk ps d kn ∧ WP K H Q (rowFrom ps d kn)
theorem ok_row_from (T : Top K mg) : Has P w K mg base 5 "row_from" ["pieces", "degree", "knots"] (spRowFrom K) := by
  refine mk_has T.d_row_from sc_row_from (fun _ _ _ _ _ _ us hl => match us, hl with | [_, _, _], _ => rfl) (fun vs H Q E h => by obtain ⟨u, ps, d, v, kn, rfl, _⟩ := h; rfl) (fun f cdv A outer s H vs Q E hr h => ?_)
  obtain ⟨u, ps, d, v, kn, rfl, hps, hk, ro, hQ⟩ := h
  obtain ⟨ka, kx, rfl, kS, kP⟩ := id hk
  have hkl := Paired.length kP
  have l1 := ro.lo
  have l2 := ro.hi
  have d4 := ro.d4
  refine ⟨_, pss_cons (ps_set (i := 3) sc_row_from.nd rfl (.inl rfl) (pe_lst pa_nil))
    (pss_cons (ps_for PassesOwn.never rfl (pi_range1 (by rfl) T.b_range (a1 (pe_op op_sub (pe_op op_sub (pe_callB call_len_seq (by rfl) T.b_len PySem.boot_len (a1 (pv 2))) (pv 1)) pe_int))) (pg_name (i := 4) sc_row_from.nd rfl (.inl rfl))
      (pss_cons (ps_set (i := 5) sc_row_from.nd rfl (.inl rfl) (pe_ix ix_list (pe_lc (own := [("at", 6)]) (g := gName 6) (tt := tTest (tOp (rNeD K) (tOp (rIxT K) (tVar 2) (tVar 6)) (tOp (rIxT K) (tVar 2) (tOp (rI0 fun i j => .int (i + j)) (tVar 6) (tC (.int 1)))))) rfl sc_row_from.nd (pi_range2 (by rfl) T.b_range (a2 (pv 4) (pe_op op_add (pe_op op_add (pv 4) (pv 1)) pe_int)))
          (blkOk_by (own := [("at", 6)]) (N := n_row_from) (sc := defScope s_row_from) (by decide +kernel))
          (fun _ _ _ _ _ => pg_name (i := 6) sc_row_from.nd rfl (Or.inl rfl)) (fun _ _ _ _ _ => pts_one (pt_cmpR (op_neD hr.units) (pe_ix ix_tup (pv 2) (pv 6) (fun _ _ => rfl)) (pe_ix ix_tup (pv 2) (pe_op op_add (pv 6) pe_int) (fun _ _ => rfl)) (nomark _)))
          (fun _ _ _ _ _ => pv 6)) pe_int (fun _ _ => rfl)))
      (pss_one (ps_expr (pe_bm PySem.F.plainAttrs_list PySem.F.slot_list_append PySem.F.type_list_append mt_append (pv 3) (a1 (pf (ok_blossom_of T) hr (a2 (pf (ok_poly_over T) (hr.mono (by decide)) (a2 (pv 0) (pe_ix ix_tup (pv 2) (pv 5) (fun _ _ => rfl))))
          (pe_slice sl_tupA (pv 2) (po_some (pe_op op_add (pv 4) pe_int)) (po_some (pe_op op_add (pe_op op_add (pv 4) (pv 1)) pe_int)))))))))))
    (pss_one (ps_ret (pe_callTy call_tuple_of (by rfl) T.b_tuple (by decide +kernel) (a1 (pv 3)))))), ?_⟩
  refine ⟨Nat.zero_le _, fun D hD => ?_⟩
  have sD := same_upd (o := .lst []) hD
  refine ⟨_, rfl, ka, kx, rfl, .inr (seqT_keep sD kS), _, rfl, _, _, rfl, rfl, _, _, rfl, rfl, _, rfl, by omega, by omega, ?_⟩
  refine for_range (n := ((kx.length : Int) - (d : Int) - 1).toNat) (fun i σ H1 => ∃ o4 o5 o6 acc, σ = [some u, some (.int (d : Int)), some (.ref ka), some (.ref D), o4, o5, o6] ∧ Same H H1 ∧ H1 D = some (.lst acc) ∧ RtL K H1 acc (rowN ps d kn i)) ⟨_, _, _, [], rfl, sD, upd_same, .nil⟩ (fun i σ H1 hi hI => ?_) (fun σ H1 hI => ?_)
  · obtain ⟨o4, o5, o6, acc, rfl, sm, hA, hR⟩ := hI
    have hi' : i < kn.length - d - 1 := by omega
    have kS1 := seqT_keep sm kS
    obtain ⟨okb, okl⟩ := ro.ok i hi'
    have hral : acc.length ≤ 16 := by
      have h1 := Paired.length hR
      have h2 : ∀ n, (rowN ps d kn n).length = n := by
        intro n
        induction n with
        | zero => rfl
        | succ n ih => show (rowN ps d kn n ++ [_]).length = n + 1; rw [List.length_append, ih]; rfl
      rw [h2] at h1; omega
    -- the first interval that is not empty
    refine ⟨_, rfl, _, rfl, _, rfl, _, _, rfl, rfl, _, _, rfl, rfl, _, _, rfl, ⟨by omega, by omega, by omega, by omega⟩, fun L hL => ?_⟩
    have hn : (0 + (i : Int) + (d : Int) + 1 - (0 + (i : Int))).toNat = d + 1 := by omega
    refine lc_range (n := (0 + (i : Int) + (d : Int) + 1 - (0 + (i : Int))).toNat) (fun r H2 => Same H1 H2 ∧ H2 L = some (.lst ((ivN (tk kn) i r).map fun q : Nat => V.int (q : Int)))) ⟨same_upd hL, upd_same⟩ (fun r H2 hr2 hI => ?_) (fun H2 hI => ?_)
    · obtain ⟨sm2, hL2⟩ := hI
      have s12 := sm.trans sm2
      have i1 : i + r < kn.length := by omega
      have i2 : i + r + 1 < kn.length := by omega
      obtain ⟨y0, hy0, r0⟩ := pr_get (rtl_keep kP s12) (at_getD i1)
      obtain ⟨y1, hy1, r1⟩ := pr_get (rtl_keep kP s12) (at_getD i2)
      refine ⟨rfl, _, rfl, _, rfl, ka, kx, _, y0, rfl, rfl, seqT_keep s12 kS, at_of (j := i + r) (by omega) hy0, _, rfl, _, rfl, _, _, rfl, rfl, ka, kx, _, y1, rfl, rfl, seqT_keep s12 kS, at_of (j := i + r + 1) (by omega) hy1, _, _, rD_dp r0, rD_dp r1, rD_shaped _, rD_shaped _, _, rfl, ?_⟩
      rw [rD_eqv]
      have iv1 : ivN (tk kn) i (r + 1) = if tk kn (i + r) = tk kn (i + r + 1) then ivN (tk kn) i r else ivN (tk kn) i r ++ [i + r] := rfl
      by_cases e : tk kn (i + r) = tk kn (i + r + 1)
      · rw [decide_eq_true (show kn.getD (i + r) 0 = kn.getD (i + r + 1) 0 from e)]
        refine iteF ⟨sm2, ?_⟩
        rw [iv1, if_pos e]; exact hL2
      · rw [decide_eq_false (show ¬ kn.getD (i + r) 0 = kn.getD (i + r + 1) 0 from e)]
        refine iteT ⟨_, rfl, _, hL2, ?_, same_new sm2 hL, ?_⟩
        · rw [List.length_map]; exact sz1 (Nat.le_trans (ivN_len _ _ _) (by omega))
        · rw [upd_same, iv1, if_neg e, List.map_append]
          show some (HO.lst (_ ++ [V.int (0 + (i : Int) + (r : Int))])) = some (HO.lst (_ ++ [V.int ((i + r : Nat) : Int)]))
          rw [show 0 + (i : Int) + (r : Int) = ((i + r : Nat) : Int) by omega]
    · obtain ⟨sm2, hL2⟩ := hI
      rw [hn] at hL2
      have hne := ro.iv i hi'
      have hfi : (ivN (tk kn) i (d + 1))[0]? = some (firstN (tk kn) i d) := by
        unfold firstN
        have : 0 < (ivN (tk kn) i (d + 1)).length := List.length_pos_iff.mpr hne
        simp [List.getD, this]
      have hfm := ivN_mem (List.mem_of_getElem? hfi)
      generalize hq : firstN (tk kn) i d = q at hfi hfm okb okl
      refine ⟨L, _, 0, .int (q : Int), rfl, rfl, SqL.of hL2, at_of (j := 0) rfl (by rw [List.getElem?_map, hfi]; rfl), ?_⟩
      have s12 := sm.trans sm2
      have i1 : q < kn.length := by omega
      obtain ⟨y0, hy0, r0⟩ := pr_get (rtl_keep kP s12) (at_getD i1)
      refine ⟨_, rfl, .inl ⟨rfl, _, SqL.of (sm2 _ _ hA)⟩, _, rfl, _, rfl, _, rfl, ka, kx, _, y0, rfl, rfl, seqT_keep s12 kS, at_of (j := q) (by omega) hy0, ?_⟩
      refine ⟨_, _, ps, _, rfl, hps.keep s12, r0, ro.sk _ (List.mem_of_getElem? (at_getD i1)), ro.sp, ro.ne, fun H3 v3 e3 q3 => ?_⟩
      refine ⟨_, rfl, _, rfl, _, _, rfl, rfl, _, rfl, _, rfl, _, rfl, _, _, rfl, rfl, _, _, rfl, rfl, _, rfl, ?_⟩
      refine sl_any (seqT_keep (s12.trans e3) kS) (fun H4 b e4 hb => ?_)
      rw [show (0 + (i : Int) + 1) = ((i + 1 : Nat) : Int) by omega, show (0 + (i : Int) + (d : Int) + 1) = ((i + d + 1 : Nat) : Int) by omega, cutV_mid kx (i + 1) (i + d + 1) (by omega) (by omega)] at hb
      have hw : Pol K H4 (.ref b) (wincut kn i d) := ⟨b, _, rfl, hb, by
        unfold wincut
        rw [show i + d + 1 - (i + 1) = d by omega]
        exact pr_take _ (pr_drop _ (rtl_keep kP ((s12.trans e3).trans e4)))⟩
      have hwl := wincut_len (kn := kn) (i := i) (d := d) (by omega)
      refine ⟨_, _, _, _, rfl, q3.keep e4, hw, okb, by rw [hwl]; exact okl, by omega, fun H5 v5 e5 q5 => ?_⟩
      have hA5 := ((e3.trans e4).trans e5) _ _ (sm2 _ _ hA)
      refine ⟨D, acc, _, rfl, rfl, hA5, sz1 (by omega), ?_⟩
      refine ⟨_, _, _, _, rfl, same_new (((s12.trans e3).trans e4).trans e5) hD, upd_same, ?_⟩
      show RtL K _ _ (rowN ps d kn i ++ [blossom (polyOver ps (tk kn (firstN (tk kn) i d))) (wincut kn i d)])
      rw [hq]
      exact pr_append (rtl_upd hA5 (rtl_keep hR (sm2.trans ((e3.trans e4).trans e5)))) (.cons (rt_upd hA5 q5) .nil)
  · obtain ⟨o4, o5, o6, acc, rfl, sm, hA, hR⟩ := hI
    have hn : ((kx.length : Int) - (d : Int) - 1).toNat = kn.length - d - 1 := by omega
    rw [hn] at hR
    exact ⟨_, rfl, D, acc, rfl, .inl ⟨SqL.of hA, fun l hl => hQ _ _ (sm.trans (same_upd hl)) ⟨l, acc, rfl, SqT.of upd_same, rtl_keep hR (same_upd hl)⟩⟩⟩
def spWk (K : PySem.W.Frag) : Sp := fun vs H Q _ => ∃ v u d kn c x, vs = [v, u] ∧ SplV K H v d kn c ∧ Rt K H u x ∧ WkOk d kn c x ∧ ∀ H' v', Same H H' → SplF K H' v' d (wkKn kn x) (wkRow d kn c x) → Q v' H'
theorem ok_with_knot (T : Top K mg) : Has P w K mg base 4 "with_knot" ["spline", "x"] (spWk K) := by
  refine mk_has T.d_with_knot sc_with_knot (fun _ _ _ _ _ _ us hl => match us, hl with | [_, _], _ => rfl) (fun vs H Q E h => by obtain ⟨v, u, d, kn, c, x, rfl, _⟩ := h; rfl) (fun f cdv A outer s H vs Q E hr h => ?_)
  obtain ⟨v, u, d, kn, c, x, rfl, ⟨a, kv, rw', rfl, hS, hk, hc⟩, hx, ok, hQ⟩ := h
  obtain ⟨ka, kx, rfl, kS, kP⟩ := id hk
  obtain ⟨ra, rx, rfl, rS, rP⟩ := id hc
  have hkl := Paired.length kP
  have hrl := Paired.length rP
  have l1 := ok.len
  have l2 := ok.hi
  have l3 := ok.sp1
  have app {e : Expr} {te : TE} := @pe_bm
  refine ⟨_, pss_cons (ps_asg (pv 0) (pg_tup rfl (pgs_cons (pg_name (i := 2) sc_with_knot.nd rfl (.inl rfl)) (pgs_cons (pg_name (i := 3) sc_with_knot.nd rfl (.inl rfl)) (pgs_cons (pg_name (i := 4) sc_with_knot.nd rfl (.inl rfl)) pgs_nil)))))
    (pss_cons (ps_par (i := 5) (j := 6) (by rfl) sc_with_knot.nd rfl rfl (by decide) rfl rfl (a2 (pf (ok_span_of T) (hr.mono (by decide)) (a2 (pv 3) (pv 1))) (pe_lst pa_nil)) (by rfl))
    (pss_cons (ps_for PassesOwn.never rfl (pi_range1 (by rfl) T.b_range (a1 (pe_op op_add (pe_callB call_len_seq (by rfl) T.b_len PySem.boot_len (a1 (pv 4))) pe_int))) (pg_name (i := 7) sc_with_knot.nd rfl (.inl rfl))
      (pss_one (ps_if (pt_cmpR op_le (pv 7) (pe_op op_sub (pv 5) (pv 2)) (nomark _))
        (pss_one (ps_expr (pe_bm PySem.F.plainAttrs_list PySem.F.slot_list_append PySem.F.type_list_append mt_append (pv 6) (a1 (pe_ix ix_tup (pv 4) (pv 7) (fun _ _ => rfl))))))
        (pss_one (ps_if (pt_cmpR op_gt (pv 7) (pv 5) (nomark _))
          (pss_one (ps_expr (pe_bm PySem.F.plainAttrs_list PySem.F.slot_list_append PySem.F.type_list_append mt_append (pv 6) (a1 (pe_ix ix_tup (pv 4) (pe_op op_sub (pv 7) pe_int) (fun _ _ => rfl))))))
          (pss_cons (ps_set (i := 8) sc_with_knot.nd rfl (.inl rfl) (pf (ok_over T) (hr.mono (by decide)) (a2 (pf (ok_less T) (hr.mono (by decide)) (a2 (pv 1) (pe_ix ix_tup (pv 3) (pv 7) (fun _ _ => rfl)))) (pf (ok_less T) (hr.mono (by decide)) (a2 (pe_ix ix_tup (pv 3) (pe_op op_add (pv 7) (pv 2)) (fun _ _ => rfl)) (pe_ix ix_tup (pv 3) (pv 7) (fun _ _ => rfl)))))))
          (pss_one (ps_expr (pe_bm PySem.F.plainAttrs_list PySem.F.slot_list_append PySem.F.type_list_append mt_append (pv 6) (a1 (pf (ok_between T) hr (a3 (pe_ix ix_tup (pv 4) (pe_op op_sub (pv 7) pe_int) (fun _ _ => rfl)) (pe_ix ix_tup (pv 4) (pv 7) (fun _ _ => rfl)) (pv 8)))))))))))))
    (pss_one (ps_ret (pe_tup (a3 (pv 2) (pe_tupF (StX.pa_star (pe_slice sl_tupA (pv 3) po_none (po_some (pe_op op_add (pv 5) pe_int))) (pa_cons (pv 1) (StX.pa_star (pe_slice sl_tupA (pv 3) (po_some (pe_op op_add (pv 5) pe_int)) po_none) pa_nil)))) (pe_callTy call_tuple_of (by rfl) T.b_tuple (by decide +kernel) (a1 (pv 6))))))))), ?_⟩
  refine ⟨_, rfl, a, _, rfl, hS, rfl, _, _, rfl, _, _, rfl, _, _, rfl, rfl, ?_⟩
  refine ⟨_, rfl, _, rfl, _, _, kn, x, rfl, hk, hx, ok.sx, ok.sk, by omega, by omega, Nat.zero_le _, fun D hD => ⟨_, _, rfl, ?_⟩⟩
  have sD := same_upd (o := .lst []) hD
  refine ⟨_, rfl, ra, rx, rfl, .inr (seqT_keep sD rS), _, _, rfl, rfl, _, rfl, by omega, by omega, ?_⟩
  refine for_range (n := ((rx.length : Int) + 1).toNat) (fun i σ H1 => ∃ o7 o8 acc, σ = [some (.ref a), some u, some (.int (d : Int)), some (.ref ka), some (.ref ra), some (.int (span kn x : Int)), some (.ref D), o7, o8] ∧ Same H H1 ∧ H1 D = some (.lst acc) ∧ RtL K H1 acc ((List.range i).map (wkAt d kn c x))) ⟨_, _, [], rfl, sD, upd_same, .nil⟩ (fun i σ H1 hi hI => ?_) (fun σ H1 hI => ?_)
  · obtain ⟨o7, o8, acc, rfl, sm, hA, hR⟩ := hI
    have hi' : i < c.length + 1 := by omega
    have hal := Paired.length hR
    rw [List.length_map, List.length_range] at hal
    have rS1 := seqT_keep sm rS
    have kS1 := seqT_keep sm kS
    have done : ∀ (H2 : Hp) (y : V) (o7 o8 : Option V), Same H1 H2 → Rt K H2 y (wkAt d kn c x i) → ∃ o7' o8' acc', [some (.ref a), some u, some (.int (d : Int)), some (.ref ka), some (.ref ra), some (.int (span kn x : Int)), some (.ref D), o7, o8] = [some (.ref a), some u, some (.int (d : Int)), some (.ref ka), some (.ref ra), some (.int (span kn x : Int)), some (.ref D), o7', o8'] ∧ Same H (upd H2 D (.lst (acc ++ [y]))) ∧ (upd H2 D (.lst (acc ++ [y]))) D = some (.lst acc') ∧ RtL K (upd H2 D (.lst (acc ++ [y]))) acc' ((List.range (i + 1)).map (wkAt d kn c x)) := fun H2 y o7 o8 e2 ry => by
      refine ⟨_, _, _, rfl, same_new (sm.trans e2) hD, upd_same, ?_⟩
      rw [List.range_succ, List.map_append]
      exact pr_append (rtl_upd (e2 _ _ hA) (rtl_keep hR e2)) (.cons (rt_upd (e2 _ _ hA) ry) .nil)
    refine ⟨_, rfl, _, rfl, _, rfl, _, _, rfl, rfl, _, _, rfl, rfl, _, rfl, ite2 (fun e => ?_) (fun e => ?_)⟩
    · have e1 : (i : Int) ≤ (span kn x : Int) - d := by have := of_decide_eq_true e; omega
      have e2 := ok.low i hi' e1
      obtain ⟨y, hy, ry⟩ := pr_get (rtl_keep rP sm) (at_getD e2)
      refine ⟨_, rfl, .inl ⟨rfl, _, SqL.of hA⟩, _, rfl, _, rfl, ra, rx, _, y, rfl, rfl, rS1, at_of (j := i) (by omega) hy, D, acc, _, rfl, rfl, hA, sz1 (by omega), done H1 y _ _ (Same.refl _) ?_⟩
      have : wkAt d kn c x i = tk c i := by unfold wkAt; rw [if_pos e1]
      rw [this]; exact ry
    · have e1 : ¬ ((i : Int) ≤ (span kn x : Int) - d) := fun z => e (decide_eq_true (by omega))
      refine ⟨_, rfl, _, rfl, _, _, rfl, rfl, _, rfl, ite2 (fun f => ?_) (fun f => ?_)⟩
      · have f1 : span kn x < i := by have := of_decide_eq_true f; omega
        have i1 : i - 1 < c.length := by omega
        obtain ⟨y, hy, ry⟩ := pr_get (rtl_keep rP sm) (at_getD i1)
        refine ⟨_, rfl, .inl ⟨rfl, _, SqL.of hA⟩, _, rfl, _, rfl, _, _, rfl, rfl, ra, rx, _, y, rfl, rfl, rS1, at_of (j := i - 1) (by omega) hy, D, acc, _, rfl, rfl, hA, sz1 (by omega), done H1 y _ _ (Same.refl _) ?_⟩
        have : wkAt d kn c x i = tk c (i - 1) := by unfold wkAt; rw [if_neg e1, if_pos f1]
        rw [this]; exact ry
      · have f1 : ¬ span kn x < i := fun z => f (decide_eq_true (by omega))
        obtain ⟨m1, m2, m3, m4, m5, m6, m7, m8, m9, m10⟩ := ok.mid i hi' e1 f1
        have i1 : i - 1 < c.length := by omega
        have i2 : i < kn.length := by omega
        obtain ⟨y, hy, ry⟩ := pr_get (rtl_keep rP sm) (at_getD i1)
        obtain ⟨y2, hy2, ry2⟩ := pr_get (rtl_keep rP sm) (at_getD m2)
        obtain ⟨z1, hz1, rz1⟩ := pr_get (rtl_keep kP sm) (at_getD i2)
        obtain ⟨z2, hz2, rz2⟩ := pr_get (rtl_keep kP sm) (at_getD m3)
        have sk1 := ok.sk _ (List.mem_of_getElem? (at_getD i2))
        have sk2 := ok.sk _ (List.mem_of_getElem? (at_getD m3))
        refine ⟨_, rfl, _, rfl, _, rfl, ka, kx, _, z1, rfl, rfl, kS1, at_of (j := i) (by omega) hz1, _, _, x, _, rfl, hx.keep sm, rz1, ok.sx, sk1, fun H2 v2 e2 q2 => ?_⟩
        refine ⟨_, rfl, _, rfl, _, rfl, _, _, rfl, rfl, ka, kx, _, z2, rfl, rfl, seqT_keep e2 kS1, at_of (j := i + d) (by omega) hz2, _, rfl, _, rfl, ka, kx, _, z1, rfl, rfl, seqT_keep e2 kS1, at_of (j := i) (by omega) hz1, _, _, _, _, rfl, rz2.keep e2, rz1.keep e2, sk2, sk1, fun H3 v3 e3 q3 => ?_⟩
        refine ⟨_, _, _, _, rfl, q2.keep e3, q3, m4, m6, lt_sub m5, m7, fun H4 v4 e4 q4 => ?_⟩
        have s4 := (e2.trans e3).trans e4
        refine ⟨_, rfl, .inl ⟨rfl, _, SqL.of (s4 _ _ hA)⟩, _, rfl, _, rfl, _, _, rfl, rfl, ra, rx, _, y, rfl, rfl, seqT_keep s4 rS1, at_of (j := i - 1) (by omega) hy, _, rfl, _, rfl, ra, rx, _, y2, rfl, rfl, seqT_keep s4 rS1, at_of (j := i) (by omega) hy2, _, rfl, ?_⟩
        refine ⟨_, _, _, _, _, _, rfl, ry.keep s4, ry2.keep s4, q4, ok.sc _ (List.mem_of_getElem? (at_getD i1)), ok.sc _ (List.mem_of_getElem? (at_getD m2)), m8, m9, m10, fun H5 v5 e5 q5 => ?_⟩
        refine ⟨D, acc, _, rfl, rfl, e5 _ _ (s4 _ _ hA), sz1 (by omega), done H5 v5 _ _ (s4.trans e5) ?_⟩
        have : wkAt d kn c x i = tk c (i - 1) + (x - tk kn i) / (tk kn (i + d) - tk kn i) * (tk c i - tk c (i - 1)) := by unfold wkAt; rw [if_neg e1, if_neg f1]
        rw [this]; exact q5
  · obtain ⟨o7, o8, acc, rfl, sm, hA, hR⟩ := hI
    have hn : ((rx.length : Int) + 1).toNat = c.length + 1 := by omega
    rw [hn] at hR
    have kS1 := seqT_keep sm kS
    refine ⟨_, rfl, _, rfl, _, rfl, _, _, rfl, rfl, _, rfl, ?_⟩
    rw [show ((span kn x : Nat) : Int) + 1 = ((span kn x + 1 : Nat) : Int) by omega]
    refine sl_any kS1 (fun H2 b2 e2 hb2 => ?_)
    rw [cutV_to kx _ (by omega)] at hb2
    refine ⟨b2, _, rfl, .inl hb2, _, rfl, _, rfl, _, rfl, _, _, rfl, rfl, _, rfl, ?_⟩
    rw [show ((span kn x : Nat) : Int) + 1 = ((span kn x + 1 : Nat) : Int) by omega]
    refine sl_from (seqT_keep e2 kS1) (fun H3 b3 e3 hb3 => ?_)
    rw [cutV_from kx _ (by omega)] at hb3
    refine ⟨b3, _, rfl, .inl hb3, ?_, fun p o hp ho => ?_⟩
    · refine sz2 ?_
      simp only [List.length_append, List.length_cons, List.length_take, List.length_drop, List.length_nil]
      omega
    · have s3 := (sm.trans e2).trans e3
      refine ⟨_, rfl, D, acc, rfl, .inl ⟨(same_upd hp).seq (SqL.of (e3 _ _ (e2 _ _ hA))), fun l hl => ?_⟩⟩
      refine ⟨(by show 3 ≤ sizeLine; decide), fun t ht => ?_⟩
      have sp := same_upd (o := .frz o (.tup (kx.take (span kn x + 1) ++ u :: (kx.drop (span kn x + 1) ++ [])))) hp
      have st := (sp.trans (same_upd (o := .tup acc) hl)).trans (same_upd (o := .tup [.int (d : Int), .ref p, .ref l]) ht)
      refine hQ _ _ (s3.trans st) ⟨t, .ref p, .ref l, rfl, SqT.of upd_same, ⟨p, o, _, rfl, (same_upd ht) _ _ ((same_upd hl) _ _ upd_same), ho, ?_⟩, ⟨l, acc, rfl, seqT_keep (same_upd ht) (SqT.of upd_same), rtl_keep hR ((e2.trans e3).trans st)⟩⟩
      unfold wkKn
      have kk := rtl_keep kP (s3.trans st)
      refine pr_append (pr_take _ kk) (.cons (hx.keep (s3.trans st)) ?_)
      have e := pr_append (pr_drop (span kn x + 1) kk) Paired.nil
      rw [List.append_nil (kn.drop (span kn x + 1))] at e
      exact e
end
end Bc
end
section
set_option Elab.async false
set_option linter.all false
set_option maxRecDepth 100000
set_option maxHeartbeats 4000000
set_option exponentiation.threshold 200000
namespace Bc
open PySem PySem.Spec PyProof.Rows L2
/-- how often x stands in a list -/
def cnt (kn : List Rat) (x : Rat) : Nat := kn.countP (fun y => decide (y = x))
theorem cnt_rD (kn : List Rat) (x : Rat) : (kn.map rD).countP (fun z => PyData.eqv z (rD x)) = cnt kn x := by
  unfold cnt
  rw [List.countP_map]
  congr 1
  funext y
  exact rD_eqv y x
theorem any_rD (kn : List Rat) (x : Rat) : ((kn.map rD).any fun z => PyData.eqv z (rD x)) = decide (x ∈ kn) := by
  rw [List.any_map]
  rw [Bool.eq_iff_iff, List.any_eq_true]
  constructor
  · rintro ⟨y, hy, h⟩
    have h' : PyData.eqv (rD y) (rD x) = true := h
    rw [rD_eqv] at h'
    have := of_decide_eq_true h'
    rw [← this]; exact decide_eq_true hy
  · intro h
    refine ⟨x, of_decide_eq_true h, ?_⟩
    show PyData.eqv (rD x) (rD x) = true
    rw [rD_eqv]; exact decide_eq_true rfl
/-- the first place of x -/
def idx (kn : List Rat) (x : Rat) : Nat := kn.findIdx (fun y => decide (y = x))
theorem idx_lt {kn : List Rat} {x : Rat} (h : x ∈ kn) : idx kn x < kn.length := List.findIdx_lt_length_of_exists ⟨x, h, decide_eq_true rfl⟩
theorem idx_at {kn : List Rat} {x : Rat} (h : x ∈ kn) : kn[idx kn x]? = some x := by
  have h1 := idx_lt h
  have h2 : decide (kn[idx kn x] = x) = true := List.findIdx_getElem (p := fun y => decide (y = x)) (w := h1)
  rw [List.getElem?_eq_getElem h1, of_decide_eq_true h2]
theorem idx_no {kn : List Rat} {x : Rat} {m : Nat} (h : m < idx kn x) : ∀ y, kn[m]? = some y → y ≠ x := by
  intro y hy e
  have h1 : m < kn.length := (List.getElem?_eq_some_iff.mp hy).1
  have h2 := List.not_of_lt_findIdx (p := fun y => decide (y = x)) h
  have h3 : kn[m] = y := (List.getElem?_eq_some_iff.mp hy).2
  rw [h3, decide_eq_true e] at h2
  cases h2
theorem horOk_len {x : Rat} : True := trivial
section
variable {P : Program} {w : World} {K : PySem.W.Frag} {mg : Str → Option Value} {base : Heap}
def spIns (K : PySem.W.Frag) : Sp := fun vs H Q _ => ∃ v u d kn c x, vs = [v, u] ∧ SplF K H v d kn c ∧ SOk d kn c ∧ Rt K H u x ∧ kn.getD 0 0 < x ∧ x < kn.getD (kn.length - 1) 0 ∧ WkOk d kn c x ∧ cnt kn x ≤ d ∧ kn.length < 16 ∧
  ∀ H' v', Same H H' → SplF K H' v' d (wkKn kn x) (wkRow d kn c x) → Q v' H'
theorem ok_inserted (T : Top K mg) : Has P w K mg base 5 "inserted" ["spline", "x"] (spIns K) := by
  refine mk_has T.d_inserted sc_inserted (fun _ _ _ _ _ _ us hl => match us, hl with | [_, _], _ => rfl) (fun vs H Q E h => by obtain ⟨v, u, d, kn, c, x, rfl, _⟩ := h; rfl) (fun f cdv A outer s H vs Q E hr h => ?_)
  obtain ⟨v, u, d, kn, c, x, rfl, hs, so, hx, h1, h2, ok, hc, hl, hQ⟩ := h
  obtain ⟨tk, gk⟩ := T.kno
  have hu : A.units + 3 + 65 < cLine := by have := hr.un; show A.units + 3 + 65 < cLine; have e : (A.deeper (envOfC "inserted" (defScope s_inserted) s.heap.objs.size f cdv)).units = A.units + 3 := rfl; omega
  refine ⟨_, pss_cons (ps_expr (pf (ok_need_spline T) hr (a1 (pv 0)))) (pss_cons (ps_expr (pf (ok_need_inner T) hr (a2 (pv 0) (pv 1))))
    (pss_cons (ps_asg (pv 0) (pg_tup rfl (pgs_cons (pg_name (i := 2) sc_inserted.nd rfl (.inl rfl)) (pgs_cons (pg_name (i := 3) sc_inserted.nd rfl (.inl rfl)) (pgs_cons (pg_name (i := 4) sc_inserted.nd rfl (.inl rfl)) pgs_nil)))))
    (pss_cons (ps_if (pt_cmpR op_gt (pe_bmT PySem.F.slot_tuple_count PySem.F.type_tuple_count (mt_countT hu) (pv 3) (a1 (pv 1))) (pv 2) (nomark _)) (pss_one ps_never) pss_nil)
    (pss_cons (ps_if (pt_cmpR op_eq (pe_callB call_len_seq (by rfl) T.b_len PySem.boot_len (a1 (pv 3))) (pe_glob (v := .int 16) (by rfl) gk ⟨_, rfl⟩) (nomark _)) (pss_one ps_never) pss_nil)
    (pss_one (ps_ret (pf (ok_with_knot T) hr (a2 (pv 0) (pv 1))))))))), ?_⟩
  refine ⟨_, rfl, v, d, kn, c, rfl, hs.spl, so, fun H1 e1 => ?_⟩
  refine ⟨_, rfl, _, rfl, v, u, d, kn, c, x, rfl, hs.spl.keep e1, so, hx.keep e1, ok.sx, h1, h2, ?_⟩
  have hs1 := hs.keep e1
  obtain ⟨a, kv, rw', rfl, hS, hk, hc'⟩ := id hs1
  refine ⟨_, rfl, a, _, rfl, hS, rfl, _, _, rfl, _, _, rfl, _, _, rfl, rfl, ?_⟩
  obtain ⟨ka, ko, kx, rfl, kH, kd, kP⟩ := id hk
  have hkl := Paired.length kP
  have kS : SqT K H1 ka kx := .inl (.inr ⟨ko, kH⟩)
  refine ⟨_, rfl, ⟨ka, ko, kx, rfl, kH, kd⟩, _, rfl, ka, u, rD x, kn.map rD, rfl, rfl, .tup kS (rDs_dp kP), rD_dp (hx.keep e1), rDs_shaped _, rD_shaped _, _, rfl, _, _, rfl, rfl, _, rfl, ?_⟩
  rw [cnt_rD, decide_eq_false (show ¬ ((d : Int) < (cnt kn x : Int)) by omega)]
  refine iteF ⟨_, rfl, ka, kx, rfl, .inr kS, rfl, _, rfl, ?_⟩
  rw [decide_eq_false (show ¬ (V.int (kx.length : Int) = V.int 16) by intro z; have := V.int.inj z; omega)]
  exact iteF ⟨_, rfl, _, rfl, .ref a, u, d, kn, c, x, rfl, hs1.spl, hx.keep e1, ok, fun H2 v2 e2 q2 => hQ _ _ (e1.trans e2) q2⟩
def spOrd (K : PySem.W.Frag) : Sp := fun vs H Q _ => ∃ u v d y p q x, vs = [u, v, .int ((d : Nat) : Int), y] ∧ Pol K H u p ∧ Pol K H v q ∧ Rt K H y x ∧ Sm x ∧ d ≤ 4 ∧ ordOk x (d + 1) p q ∧ ∀ H', Same H H' → Q (.int (ordAt x d (d + 1) 0 p q)) H'
theorem ok_order_at (T : Top K mg) : Has P w K mg base 4 "order_at" ["one", "other", "degree", "x"] (spOrd K) := by
  refine mk_has T.d_order_at sc_order_at (fun _ _ _ _ _ _ us hl => match us, hl with | [_, _, _, _], _ => rfl) (fun vs H Q E h => by obtain ⟨u, v, d, y, p, q, x, rfl, _⟩ := h; rfl) (fun f cdv A outer s H vs Q E hr h => ?_)
  obtain ⟨u, v, d, y, p, q, x, rfl, hp, hq, hx, sx, d4, ok, hQ⟩ := h
  refine ⟨_, pss_cons (ps_for PassesOwn.never rfl (pi_range1 (by rfl) T.b_range (a1 (pe_op op_add (pv 2) pe_int))) (pg_name (i := 4) sc_order_at.nd rfl (.inl rfl))
      (pss_cons (ps_if (pt_cmpR (op_neD hr.units) (pf (ok_at T) hr (a2 (pv 0) (pv 3))) (pf (ok_at T) hr (a2 (pv 1) (pv 3))) (nomark _)) (pss_one (ps_ret (pe_op op_sub (pv 4) pe_int))) pss_nil)
      (pss_one (ps_par (i := 0) (j := 1) (by rfl) sc_order_at.nd rfl rfl (by decide) rfl rfl (a2 (pf (ok_p_slope T) hr (a1 (pv 0))) (pf (ok_p_slope T) hr (a1 (pv 1)))) (by rfl)))))
    (pss_one (ps_ret (pv 2))), ?_⟩
  refine ⟨_, rfl, _, _, rfl, rfl, _, rfl, by omega, by omega, ?_⟩
  have hn : ((d : Int) + 1).toNat = d + 1 := by omega
  refine for_range (n := ((d : Int) + 1).toNat) (fun i σ H1 => ∃ u' v' o p' q', σ = [some u', some v', some (.int (d : Int)), some y, o] ∧ Same H H1 ∧ Pol K H1 u' p' ∧ Pol K H1 v' q' ∧ ordOk x (d + 1 - i) p' q' ∧ ordAt x d (d + 1 - i) i p' q' = ordAt x d (d + 1) 0 p q) ⟨_, _, _, p, q, rfl, Same.refl _, hp, hq, ok, rfl⟩ (fun i σ H1 hi hI => ?_) (fun σ H1 hI => ?_)
  · obtain ⟨u', v', o, p', q', rfl, sm, hp', hq', ok', eq'⟩ := hI
    obtain ⟨n, en⟩ : ∃ n, d + 1 - i = n + 1 := ⟨d - i, by omega⟩
    rw [en] at ok' eq'
    obtain ⟨k1, k2, k3, k4, k5, k6, k7⟩ := ok'
    refine ⟨_, rfl, _, rfl, _, _, p', x, rfl, hp', hx.keep sm, sx, k5, k1, fun H2 v2 e2 r2 => ?_⟩
    refine ⟨_, rfl, _, rfl, _, _, q', x, rfl, hq'.keep e2, hx.keep (sm.trans e2), sx, k6, k2, fun H3 v3 e3 r3 => ?_⟩
    have s3 := e2.trans e3
    refine ⟨_, _, rD_dp (r2.keep e3), rD_dp r3, rD_shaped _, rD_shaped _, _, rfl, ?_⟩
    rw [rD_eqv]
    have eo : ordAt x d (n + 1) i p' q' = if hor x 0 p'.reverse ≠ hor x 0 q'.reverse then (i : Int) - 1 else ordAt x d n (i + 1) (pslope p') (pslope q') := rfl
    by_cases e : hor x 0 p'.reverse = hor x 0 q'.reverse
    · rw [decide_eq_true e]
      rw [eo, if_neg (fun z => z e)] at eq'
      refine iteF ⟨_, rfl, _, p', rfl, hp'.keep s3, k3, k5, fun H4 v4 e4 r4 => ?_⟩
      refine ⟨_, rfl, _, q', rfl, hq'.keep (s3.trans e4), k4, k6, fun H5 v5 e5 r5 => ⟨_, _, rfl, ?_⟩⟩
      refine ⟨_, _, _, _, _, rfl, sm.trans ((s3.trans e4).trans e5), r4.keep e5, r5, ?_, ?_⟩
      · rw [show d + 1 - (i + 1) = n by omega]; exact k7
      · rw [show d + 1 - (i + 1) = n by omega]; exact eq'
    · rw [decide_eq_false e]
      rw [eo, if_pos e] at eq'
      refine iteT ⟨_, rfl, _, _, rfl, rfl, ?_⟩
      show Q (.int (0 + (i : Int) - 1)) H3
      rw [Int.zero_add, eq']
      exact hQ _ (sm.trans s3)
  · obtain ⟨u', v', o, p', q', rfl, sm, hp', hq', ok', eq'⟩ := hI
    rw [hn, show d + 1 - (d + 1) = 0 by omega] at eq'
    refine ⟨_, rfl, ?_⟩
    have e0 : ordAt x d 0 (d + 1) p' q' = (d : Int) := rfl
    rw [e0] at eq'
    rw [eq']; exact hQ _ sm
def smOk (x : Rat) (d : Nat) (ps : List Pc) : Prop := ∀ i a b, ps[i]? = some a → ps[i + 1]? = some b → b.1 = x → ordOk x (d + 1) a.2.2 b.2.2
def spSmo (K : PySem.W.Frag) : Sp := fun vs H Q _ => ∃ u ps d v x, vs = [u, .int ((d : Nat) : Int), v] ∧ Pcs K H u ps ∧ Rt K H v x ∧ Sm x ∧ d ≤ 4 ∧ ps.length ≤ 1000 ∧ smOk x d ps ∧ ∀ H', Same H H' → Q (.int (smAt x d ps)) H'
theorem smAt_drop {x : Rat} {d : Nat} : ∀ {ps : List Pc} {i : Nat} {a b : Pc}, ps[i]? = some a → ps[i + 1]? = some b → smAt x d (ps.drop i) = if b.1 = x then ordAt x d (d + 1) 0 a.2.2 b.2.2 else smAt x d (ps.drop (i + 1))
  | [], i, a, b, h, _ => by simp at h
  | [c], i, a, b, _, h => by simp at h
  | c :: e :: r, 0, a, b, h1, h2 => by
    simp at h1 h2; subst h1 h2; rfl
  | c :: e :: r, i + 1, a, b, h1, h2 => by
    have := smAt_drop (x := x) (d := d) (ps := e :: r) (i := i) (a := a) (b := b) (by simpa using h1) (by simpa using h2)
    simpa using this
theorem ok_smoothness_of (T : Top K mg) : Has P w K mg base 5 "smoothness_of" ["pieces", "degree", "x"] (spSmo K) := by
  refine mk_has T.d_smoothness_of sc_smoothness_of (fun _ _ _ _ _ _ us hl => match us, hl with | [_, _, _], _ => rfl) (fun vs H Q E h => by obtain ⟨u, ps, d, v, x, rfl, _⟩ := h; rfl) (fun f cdv A outer s H vs Q E hr h => ?_)
  obtain ⟨u, ps, d, v, x, rfl, ⟨a, xs, rfl, hS, hP⟩, hx, sx, d4, hlen, ok, hQ⟩ := h
  have hl := Paired.length hP
  refine ⟨_, pss_cons (ps_for PassesOwn.never rfl (pi_range2 (by rfl) T.b_range (a2 pe_int (pe_callB call_len_seq (by rfl) T.b_len PySem.boot_len (a1 (pv 0))))) (pg_name (i := 3) sc_smoothness_of.nd rfl (.inl rfl))
      (pss_one (ps_if (pt_cmpR (op_eqD hr.units) (pe_ix ix_tup (pe_ix ix_tup (pe_ix ix_tup (pv 0) (pv 3) (fun _ _ => rfl)) pe_int (fun _ _ => rfl)) pe_int (fun _ _ => rfl)) (pv 2) (nomark _))
        (pss_one (ps_ret (pf (ok_order_at T) hr (pa_cons (pe_ix ix_tup (pe_ix ix_tup (pv 0) (pe_op op_sub (pv 3) pe_int) (fun _ _ => rfl)) pe_int (fun _ _ => rfl)) (a3 (pe_ix ix_tup (pe_ix ix_tup (pv 0) (pv 3) (fun _ _ => rfl)) pe_int (fun _ _ => rfl)) (pv 1) (pv 2)))))) pss_nil)))
    (pss_one (ps_ret (pv 1))), ?_⟩
  refine ⟨_, rfl, a, xs, rfl, .inr hS, 1, _, rfl, ⟨by omega, by omega, by omega, by omega⟩, ?_⟩
  refine for_range (n := ((xs.length : Int) - 1).toNat) (fun i σ H1 => ∃ o, σ = [some (.ref a), some (.int (d : Int)), some v, o] ∧ H1 = H ∧ smAt x d (ps.drop i) = smAt x d ps) ⟨_, rfl, rfl, rfl⟩ (fun i σ H1 hi hI => ?_) (fun σ H1 hI => ?_)
  · obtain ⟨o, rfl, rfl, eq'⟩ := hI
    have i1 : i < ps.length := by omega
    have i2 : i + 1 < ps.length := by omega
    obtain ⟨y1, hy1, r1⟩ := pr_get hP (List.getElem?_eq_getElem i1)
    obtain ⟨y2, hy2, r2⟩ := pr_get hP (List.getElem?_eq_getElem i2)
    obtain ⟨b1, iv1, p1, rfl, bS1, bi1, bp1⟩ := id r1
    obtain ⟨b2, iv2, p2, rfl, bS2, ⟨c2, lo2, hi2, rfl, cS2, rlo2, rhi2⟩, bp2⟩ := id r2
    rw [smAt_drop (List.getElem?_eq_getElem i1) (List.getElem?_eq_getElem i2)] at eq'
    refine ⟨_, rfl, _, rfl, a, xs, _, _, rfl, rfl, hS, at_of (j := i + 1) (by omega) hy2, b2, _, 0, _, rfl, rfl, bS2, atI_nat (j := 0) rfl, c2, _, 0, _, rfl, rfl, cS2, atI_nat (j := 0) rfl, _, rfl, _, _, rD_dp rlo2, rD_dp hx, rD_shaped _, rD_shaped _, _, rfl, ?_⟩
    rw [rD_eqv]
    by_cases e : ps[i + 1].1 = x
    · rw [decide_eq_true e]
      rw [if_pos e] at eq'
      refine iteT ⟨_, rfl, _, rfl, _, _, rfl, rfl, a, xs, _, _, rfl, rfl, hS, at_of (j := i) (by omega) hy1, b1, _, 1, _, rfl, rfl, bS1, atI_nat (j := 1) rfl, _, rfl, _, rfl, a, xs, _, _, rfl, rfl, hS, at_of (j := i + 1) (by omega) hy2, b2, _, 1, _, rfl, rfl, bS2, atI_nat (j := 1) rfl, _, rfl, _, rfl, ?_⟩
      refine ⟨_, _, d, _, _, _, x, rfl, bp1, bp2, hx, sx, d4, ok i _ _ (List.getElem?_eq_getElem i1) (List.getElem?_eq_getElem i2) e, fun H2 e2 => ?_⟩
      rw [eq']; exact hQ _ e2
    · rw [decide_eq_false e]
      rw [if_neg e] at eq'
      exact iteF ⟨_, rfl, rfl, eq'⟩
  · obtain ⟨o, rfl, rfl, eq'⟩ := hI
    refine ⟨_, rfl, ?_⟩
    have e0 : smAt x d (ps.drop ((xs.length : Int) - 1).toNat) = (d : Int) := by
      have h1 : (ps.drop ((xs.length : Int) - 1).toNat).length ≤ 1 := by rw [List.length_drop]; omega
      cases hq : ps.drop ((xs.length : Int) - 1).toNat with
      | nil => rfl
      | cons b r =>
        cases r with
        | nil => rfl
        | cons b2 r2 => rw [hq] at h1; simp at h1
    rw [e0] at eq'
    rw [eq']; exact hQ _ (Same.refl _)
theorem pieces_len (kn c : List Rat) (d : Nat) : (pieces kn c d).length ≤ kn.length - 1 := pcsN_len _ _ _ _
def spSmoo (K : PySem.W.Frag) : Sp := fun vs H Q _ => ∃ v u d kn c x, vs = [v, u] ∧ SplV K H v d kn c ∧ SOk d kn c ∧ pcsOk kn c d ∧ Rt K H u x ∧ Sm x ∧ kn.getD 0 0 < x ∧ x < kn.getD (kn.length - 1) 0 ∧ smOk x d (pieces kn c d) ∧ ∀ H', Same H H' → Q (.int (smAt x d (pieces kn c d))) H'
theorem ok_smoothness (T : Top K mg) : Has P w K mg base 11 "smoothness" ["spline", "x"] (spSmoo K) := by
  refine mk_has T.d_smoothness sc_smoothness (fun _ _ _ _ _ _ us hl => match us, hl with | [_, _], _ => rfl) (fun vs H Q E h => by obtain ⟨v, u, d, kn, c, x, rfl, _⟩ := h; rfl) (fun f cdv A outer s H vs Q E hr h => ?_)
  obtain ⟨v, u, d, kn, c, x, rfl, hs, so, okp, hx, sx, h1, h2, oks, hQ⟩ := h
  refine ⟨_, pss_cons (ps_expr (pf (ok_need_spline T) (hr.mono (by decide)) (a1 (pv 0)))) (pss_cons (ps_expr (pf (ok_need_inner T) (hr.mono (by decide)) (a2 (pv 0) (pv 1))))
    (pss_one (ps_ret (pf (ok_smoothness_of T) (hr.mono (by decide)) (a3 (pf (ok_pieces_of T) hr (a1 (pv 0))) (ix 0) (pv 1)))))), ?_⟩
  have l1 := so.k.lo
  have l2 := so.k.hi
  have lp := pieces_len kn c d
  refine ⟨_, rfl, v, d, kn, c, rfl, hs, so, fun H1 e1 => ?_⟩
  refine ⟨_, rfl, _, rfl, v, u, d, kn, c, x, rfl, hs.keep e1, so, hx.keep e1, sx, h1, h2, ?_⟩
  refine ⟨_, rfl, v, d, kn, c, rfl, hs.keep e1, so.k.d4, so.k.hi, by omega, so.len, okp, fun H2 v2 e2 q2 => ?_⟩
  obtain ⟨a, kv, rw', rfl, hS, hk, hc'⟩ := hs.keep (e1.trans e2)
  refine ⟨_, rfl, a, _, 0, _, rfl, rfl, hS, atI_nat (j := 0) rfl, _, rfl, _, _, d, _, x, rfl, q2, hx.keep (e1.trans e2), sx, so.k.d4, by omega, oks, fun H3 e3 => hQ _ ((e1.trans e2).trans e3)⟩
/-- the knots without the first x -/
def kless (kn : List Rat) (x : Rat) : List Rat := kn.take (idx kn x) ++ kn.drop (idx kn x + 1)
def spRem (K : PySem.W.Frag) : Sp := fun vs H Q _ => ∃ v u d kn c x, vs = [v, u] ∧ SplF K H v d kn c ∧ SOk d kn c ∧ pcsOk kn c d ∧ Rt K H u x ∧ Sm x ∧ kn.getD 0 0 < x ∧ x < kn.getD (kn.length - 1) 0 ∧ x ∈ kn ∧ smOk x d (pieces kn c d) ∧
  (smAt x d (pieces kn c d) ≤ (d : Int) - (cnt kn x : Int) → ∀ H', Same H H' → Q .non H') ∧
  (¬ smAt x d (pieces kn c d) ≤ (d : Int) - (cnt kn x : Int) → RowOk (pieces kn c d) d (kless kn x) ∧ ∀ H' v', Same H H' → SplV K H' v' d (kless kn x) (rowFrom (pieces kn c d) d (kless kn x)) → Q v' H')
theorem ok_removed (T : Top K mg) : Has P w K mg base 11 "removed" ["spline", "x"] (spRem K) := by
  refine mk_has T.d_removed sc_removed (fun _ _ _ _ _ _ us hl => match us, hl with | [_, _], _ => rfl) (fun vs H Q E h => by obtain ⟨v, u, d, kn, c, x, rfl, _⟩ := h; rfl) (fun f cdv A outer s H vs Q E hr h => ?_)
  obtain ⟨v, u, d, kn, c, x, rfl, hs, so, okp, hx, sx, h1, h2, hmem, oks, hN, hQ⟩ := h
  have hu : A.units + 3 + 65 < cLine := by have := hr.un; show A.units + 3 + 65 < cLine; have e : (A.deeper (envOfC "removed" (defScope s_removed) s.heap.objs.size f cdv)).units = A.units + 3 := rfl; omega
  refine ⟨_, pss_cons (ps_expr (pf (ok_need_spline T) (hr.mono (by decide)) (a1 (pv 0)))) (pss_cons (ps_expr (pf (ok_need_inner T) (hr.mono (by decide)) (a2 (pv 0) (pv 1))))
    (pss_cons (ps_asg (pv 0) (pg_tup rfl (pgs_cons (pg_name (i := 2) sc_removed.nd rfl (.inl rfl)) (pgs_cons (pg_name (i := 3) sc_removed.nd rfl (.inl rfl)) (pgs_cons (pg_name (i := 4) sc_removed.nd rfl (.inl rfl)) pgs_nil)))))
    (pss_cons (ps_if (pt_cmpR (op_notInT hu) (pv 1) (pv 3) (by rfl)) (pss_one ps_never) pss_nil)
    (pss_cons (ps_set (i := 5) sc_removed.nd rfl (.inl rfl) (pf (ok_pieces_of T) hr (a1 (pv 0))))
    (pss_cons (ps_if (pt_cmpR op_le (pf (ok_smoothness_of T) (hr.mono (by decide)) (a3 (pv 5) (pv 2) (pv 1))) (pe_op op_sub (pv 2) (pe_bmT PySem.F.slot_tuple_count PySem.F.type_tuple_count (mt_countT hu) (pv 3) (a1 (pv 1)))) (nomark _)) (pss_one (ps_ret pe_non)) pss_nil)
    (pss_cons (ps_set (i := 6) sc_removed.nd rfl (.inl rfl) (pe_bmT PySem.F.slot_tuple_index PySem.F.type_tuple_index (mt_indexT hu) (pv 3) (a1 (pv 1))))
    (pss_cons (ps_set (i := 7) sc_removed.nd rfl (.inl rfl) (pe_op op_catA (pe_slice sl_tupA (pv 3) po_none (po_some (pv 6))) (pe_slice sl_tupA (pv 3) (po_some (pe_op op_add (pv 6) pe_int)) po_none)))
    (pss_one (ps_ret (pe_tup (a3 (pv 2) (pv 7) (pf (ok_row_from T) (hr.mono (by decide)) (a3 (pv 5) (pv 2) (pv 7)))))))))))))), ?_⟩
  have l1 := so.k.lo
  have l2 := so.k.hi
  have lp := pieces_len kn c d
  refine ⟨_, rfl, v, d, kn, c, rfl, hs.spl, so, fun H1 e1 => ?_⟩
  refine ⟨_, rfl, _, rfl, v, u, d, kn, c, x, rfl, hs.spl.keep e1, so, hx.keep e1, sx, h1, h2, ?_⟩
  have hs1 := hs.keep e1
  obtain ⟨a, kv, rw', rfl, hS, hk, hc'⟩ := id hs1
  refine ⟨_, rfl, a, _, rfl, hS, rfl, _, _, rfl, _, _, rfl, _, _, rfl, rfl, ?_⟩
  obtain ⟨ka, ko, kx, rfl, kH, kd, kP⟩ := id hk
  have hkl := Paired.length kP
  have kS : SqT K H1 ka kx := .inl (.inr ⟨ko, kH⟩)
  refine ⟨_, rfl, _, rfl, rD x, kn.map rD, rD_dp (hx.keep e1), .tup kS (rDs_dp kP), rD_shaped _, rDs_shaped _, _, rfl, ?_⟩
  rw [any_rD, decide_eq_true hmem]
  refine iteF ⟨_, rfl, .ref a, d, kn, c, rfl, hs1.spl, so.k.d4, so.k.hi, by omega, so.len, okp, fun H2 v2 e2 q2 => ?_⟩
  have e12 := e1.trans e2
  refine ⟨_, rfl, _, rfl, _, rfl, _, _, d, _, x, rfl, q2, hx.keep e12, sx, so.k.d4, by omega, oks, fun H3 e3 => ?_⟩
  have e13 := e12.trans e3
  have s23 := e2.trans e3
  have kH3 := s23 _ _ kH
  have kP3 := rtl_keep kP s23
  have kS3 : SqT K H3 ka kx := .inl (.inr ⟨ko, kH3⟩)
  refine ⟨_, rfl, _, rfl, ⟨ka, ko, kx, rfl, kH3, kd⟩, _, rfl, ka, u, rD x, kn.map rD, rfl, rfl, .tup kS3 (rDs_dp kP3), rD_dp (hx.keep e13), rDs_shaped _, rD_shaped _, _, _, rfl, rfl, _, _, rfl, rfl, _, rfl, ?_⟩
  rw [cnt_rD]
  by_cases e : smAt x d (pieces kn c d) ≤ (d : Int) - (cnt kn x : Int)
  · rw [decide_eq_true e]
    exact iteT (hN e _ e13)
  · rw [decide_eq_false e]
    obtain ⟨rok, hQ⟩ := hQ e
    have il := idx_lt hmem
    refine iteF ⟨_, rfl, ⟨ka, ko, kx, rfl, kH3, kd⟩, _, rfl, ka, u, rD x, kn.map rD, idx kn x, rD x, rfl, rfl, .tup kS3 (rDs_dp kP3), rD_dp (hx.keep e13), rDs_shaped _, rD_shaped _, by rw [List.getElem?_map, idx_at hmem]; rfl, by rw [rD_eqv]; exact decide_eq_true rfl, fun m z' hm hz' => ?_, ?_⟩
    · rw [List.getElem?_map] at hz'
      obtain ⟨y, hy, rfl⟩ := Option.map_eq_some_iff.mp hz'
      rw [rD_eqv]; exact decide_eq_false (idx_no hm y hy)
    · refine ⟨_, rfl, _, rfl, _, rfl, ?_⟩
      refine sl_any kS3 (fun H4 b4 e4 hb4 => ?_)
      rw [cutV_to kx _ (by omega)] at hb4
      refine ⟨_, rfl, _, rfl, _, _, rfl, rfl, _, rfl, ?_⟩
      rw [show ((idx kn x : Nat) : Int) + 1 = ((idx kn x + 1 : Nat) : Int) by omega]
      refine sl_from (seqT_keep e4 kS3) (fun H5 b5 e5 hb5 => ?_)
      rw [cutV_from kx _ (by omega)] at hb5
      refine cat_any (seqT_keep e5 hb4) hb5 (sz2 (by rw [List.length_take, List.length_drop]; omega)) (fun H6 b6 e6 hb6 => ?_)
      have s16 := ((e13.trans e4).trans e5).trans e6
      have s36 := (e4.trans e5).trans e6
      have hl6 : Pol K H6 (.ref b6) (kless kn x) := ⟨b6, _, rfl, hb6, pr_append (pr_take _ (rtl_keep kP3 s36)) (pr_drop _ (rtl_keep kP3 s36))⟩
      refine ⟨_, rfl, _, rfl, _, rfl, _, rfl, _, rfl, _, _, d, _, _, rfl, q2.keep (e3.trans s36), hl6, rok, fun H7 v7 e7 q7 => ?_⟩
      refine ⟨(by show 3 ≤ sizeLine; decide), fun t ht => hQ _ _ ((s16.trans e7).trans (same_upd ht)) ⟨t, _, _, rfl, SqT.of upd_same, (hl6.keep e7).keep (same_upd ht), q7.keep (same_upd ht)⟩⟩
end
end Bc
end
section
set_option Elab.async false
set_option linter.all false
set_option maxRecDepth 100000
set_option maxHeartbeats 4000000
set_option exponentiation.threshold 200000
namespace Bc
open PySem PySem.Spec PyProof.Rows L2
theorem mod_half {a b : Nat} (hb : 0 < b) (h : b ≤ a) : 2 * (a % b) < a := by
  have h1 := Nat.mod_lt a hb
  by_cases h2 : 2 * b ≤ a
  · omega
  · have : a % b = a - b := by
      rw [Nat.mod_eq_sub_mod h, Nat.mod_eq_of_lt (by omega)]
    omega
theorem fmod_nat (a b : Nat) : Int.fmod (a : Int) (b : Int) = ((a % b : Nat) : Int) := by
  rw [Int.fmod_eq_emod_of_nonneg _ (by omega)]
  exact (Int.natCast_emod a b).symm
/-- the turns of Euclid's rule -/
def EuI (L i a b : Nat) : Prop := if i % 2 = 0 then b * 2 ^ (i / 2) ≤ L else a * 2 ^ (i / 2) ≤ L ∧ b < a
theorem EuI.step {L i a b : Nat} (h : EuI L i a b) (hb : b ≠ 0) : EuI L (i + 1) b (a % b) := by
  unfold EuI at h ⊢
  by_cases e : i % 2 = 0
  · rw [if_pos e] at h
    rw [if_neg (by omega), show (i + 1) / 2 = i / 2 by omega]
    exact ⟨h, Nat.mod_lt a (by omega)⟩
  · rw [if_neg e] at h
    rw [if_pos (by omega), show (i + 1) / 2 = i / 2 + 1 by omega]
    have h1 := mod_half (a := a) (b := b) (by omega) (by omega)
    have h2 : a % b * 2 ^ (i / 2 + 1) = (2 * (a % b)) * 2 ^ (i / 2) := by
      rw [Nat.pow_succ, Nat.mul_comm (2 ^ (i / 2)) 2, ← Nat.mul_assoc, Nat.mul_comm (a % b) 2]
    rw [h2]
    exact Nat.le_trans (Nat.mul_le_mul_right _ (Nat.le_of_lt h1)) h.1
theorem EuI.end {L a b : Nat} (h : EuI L 10000 a b) (hL : L < 2 ^ 5000) : b = 0 := by
  unfold EuI at h
  rw [if_pos (by decide), show 10000 / 2 = 5000 by decide] at h
  apply Classical.byContradiction
  intro hc
  have : 1 * 2 ^ 5000 ≤ b * 2 ^ 5000 := Nat.mul_le_mul_right _ (by omega)
  rw [Nat.one_mul] at this
  exact absurd (Nat.lt_of_le_of_lt (Nat.le_trans this h) hL) (Nat.lt_irrefl _)
theorem abs_nat (n : Int) : (if n < 0 then -n else n) = (n.natAbs : Int) := by split <;> omega
section
variable {P : Program} {w : World} {K : PySem.W.Frag} {mg : Str → Option Value} {base : Heap}
def spLMade (K : PySem.W.Frag) : Sp := fun vs H Q _ => ∃ n d : Int, vs = [.int n, .int d] ∧ 0 < d ∧ d.natAbs < 2 ^ 4800 ∧ WR K H Q ((n : Rat) / (d : Rat))
theorem ok_l_made (T : Top K mg) : Has P w K mg base 1 "_law_made" ["_law_top", "_law_low"] (spLMade K) := by
  refine mk_has T.d_l_made sc_l_made (fun _ _ _ _ _ _ us hl => match us, hl with | [_, _], _ => rfl) (fun vs H Q E h => by obtain ⟨n, d, rfl, _⟩ := h; rfl) (fun f cdv A outer s H vs Q E hr h => ?_)
  obtain ⟨n, d, rfl, hd, hs, hQ⟩ := h
  refine ⟨_, pss_cons (ps_par (i := 2) (j := 3) (by rfl) sc_l_made.nd rfl rfl (by decide) rfl rfl (a2 (pe_callB call_abs (by rfl) T.b_abs (by decide +kernel) (a1 (pv 0))) (pe_callB call_abs (by rfl) T.b_abs (by decide +kernel) (a1 (pv 1)))) (by rfl))
    (pss_cons (ps_for PassesOwn.never rfl (pi_range1 (by rfl) T.b_range (a1 pe_int)) (pg_name (i := 4) sc_l_made.nd rfl (.inl rfl))
      (pss_cons (ps_if (pt_cmpR op_eq (pv 3) pe_int (nomark _)) (pss_one ps_break) pss_nil)
      (pss_one (ps_par (i := 2) (j := 3) (by rfl) sc_l_made.nd rfl rfl (by decide) rfl rfl (a2 (pv 3) (pe_op op_modN (pv 2) (pv 3))) (by rfl)))))
    (pss_cons (ps_set (i := 2) sc_l_made.nd rfl (.inl rfl) (pe_ifExp (pt_cmpR op_lt (pv 1) pe_int (nomark _)) (pe_op op_sub pe_int (pv 2)) (pv 2)))
    (pss_one (ps_ret (pe_tup (a2 (pe_op op_fdivW (pv 0) (pv 2)) (pe_op op_fdivW (pv 1) (pv 2)))))))), ?_⟩
  have g1 := gcd_lt (n := n) hd hs
  have g2 := gcd_pos' (n := n) hd
  have e := mk_parts n d hd
  refine ⟨_, rfl, n, rfl, _, rfl, d, rfl, _, _, rfl, ?_⟩
  rw [abs_nat, abs_nat]
  -- behind the loop
  have fin : ∀ (o : Option V), _ := fun o => (show (tSeq (tAsg (tIf (tTest (tOp (rI0 fun i j => .bl (decide (i < j))) (tVar 1) (tC (.int 0)))) (tOp (rI0 fun i j => .int (i - j)) (tC (.int 0)) (tVar 2)) (tVar 2)) (gName 2)) (tRet (tTup (tCons (tOp (rI CDivW fun i j => .int (i / j)) (tVar 0) (tVar 2)) (tCons (tOp (rI CDivW fun i j => .int (i / j)) (tVar 1) (tVar 2)) tNil)))))
      { nx := fun _ H' => Q .non H', rt := Q } [some (.int n), some (.int d), some (.int ((Nat.gcd n.natAbs d.natAbs : Nat) : Int)), some (.int 0), o] H from by
    refine ⟨_, rfl, _, _, rfl, rfl, _, rfl, ?_⟩
    rw [decide_eq_false (show ¬ d < 0 by omega)]
    refine iteF ⟨_, rfl, ?_⟩
    refine ⟨.int n, rfl, _, rfl, n, _, rfl, rfl, wide_div (b := 8000) (by omega) (by rw [Int.natAbs_natCast]; exact lt_48 g1) (by decide) (by decide), .int d, rfl, _, rfl, d, _, rfl, rfl, wide_div (b := 8000) (by omega) (by rw [Int.natAbs_natCast]; exact lt_48 g1) (by decide) (by decide), (by show 2 ≤ sizeLine; decide), fun p hp => ?_⟩
    refine hQ _ _ (same_upd hp) ⟨p, rfl, SqT.of ?_⟩
    rw [upd_same]
    unfold rv
    rw [e.1, e.2])
  refine ⟨10000, rfl, by decide, by decide, ?_⟩
  refine for_range (n := (10000 : Int).toNat) (fun i σ H1 => ∃ (a b : Nat) (o : Option V), σ = [some (.int n), some (.int d), some (.int (a : Int)), some (.int (b : Int)), o] ∧ H1 = H ∧ EuI d.natAbs i a b ∧ Nat.gcd a b = Nat.gcd n.natAbs d.natAbs)
    ⟨n.natAbs, d.natAbs, _, rfl, rfl, by unfold EuI; rw [if_pos (by decide)]; show d.natAbs * 2 ^ 0 ≤ _; rw [Nat.pow_zero, Nat.mul_one]; exact Nat.le_refl _, rfl⟩ (fun i σ H1 hi hI => ?_) (fun σ H1 hI => ?_)
  · obtain ⟨a, b, o, rfl, rfl, hE, hg⟩ := hI
    refine ⟨_, rfl, rfl, _, rfl, ?_⟩
    by_cases hb : b = 0
    · subst hb
      rw [Nat.gcd_zero_right] at hg
      subst hg
      exact iteT (fin _)
    · rw [decide_eq_false (show ¬ V.int (b : Int) = V.int 0 by intro z; have := V.int.inj z; omega)]
      refine iteF ⟨_, rfl, _, rfl, _, rfl, _, _, rfl, rfl, by omega, _, _, rfl, ?_⟩
      refine ⟨b, a % b, some (.int (0 + (i : Int))), ?_, rfl, hE.step hb, ?_⟩
      · show [some (V.int n), some (.int d), some (.int (b : Int)), some (.int (Int.fmod (a : Int) (b : Int))), some (.int (0 + (i : Int)))] = _
        rw [fmod_nat]
      · rw [← hg, Nat.gcd_comm a b, Nat.gcd_rec b a, Nat.gcd_comm]
  · obtain ⟨a, b, o, rfl, rfl, hE, hg⟩ := hI
    have hb : b = 0 := EuI.end hE (Nat.lt_of_lt_of_le hs (Nat.pow_le_pow_right (by decide) (by decide)))
    subst hb
    rw [Nat.gcd_zero_right] at hg
    subst hg
    exact fin _
theorem ok_l_plus (T : Top K mg) : Has P w K mg base 2 "_law_plus" ["_law_one", "_law_other"] (sp2 K fun a b => a + b) := by
  refine mk_has T.d_l_plus sc_l_plus (fun _ _ _ _ _ _ us hl => match us, hl with | [_, _], _ => rfl) sp2_len (fun f cdv A outer s H vs Q E hr h => ?_)
  obtain ⟨u, v, a, b, rfl, ⟨p, rfl, hp⟩, ⟨q, rfl, hq⟩, sa, sb, hQ⟩ := h
  refine ⟨_, pss_one (ps_ret (pf (ok_l_made T) hr (pa_cons (pe_op op_add (pe_op op_mulX (ix 0) (ix 1)) (pe_op op_mulX (ix 1) (ix 0))) (pa_cons (pe_op op_mulX (ix 0) (ix 1)) pa_nil)))), ?_⟩
  refine ⟨_, rfl, p, _, 0, _, rfl, rfl, hp, rv_0 a, _, rfl, q, _, 1, _, rfl, rfl, hq, rv_1 b, _, _, rfl, rfl, mul_nd sa sb, _, rfl, q, _, 0, _, rfl, rfl, hq, rv_0 b, _, rfl, p, _, 1, _, rfl, rfl, hp, rv_1 a, _, _, rfl, rfl, mul_nd sb sa, _, _, rfl, rfl,
    _, rfl, p, _, 1, _, rfl, rfl, hp, rv_1 a, _, rfl, q, _, 1, _, rfl, rfl, hq, rv_1 b, _, _, rfl, rfl, mul_dd sa sb, _, _, rfl, dd_pos a b, dd_lt sa sb, ?_⟩
  rw [q_add]; exact hQ
theorem ok_l_minus (T : Top K mg) : Has P w K mg base 2 "_law_minus" ["_law_one", "_law_other"] (sp2 K fun a b => a - b) := by
  refine mk_has T.d_l_minus sc_l_minus (fun _ _ _ _ _ _ us hl => match us, hl with | [_, _], _ => rfl) sp2_len (fun f cdv A outer s H vs Q E hr h => ?_)
  obtain ⟨u, v, a, b, rfl, ⟨p, rfl, hp⟩, ⟨q, rfl, hq⟩, sa, sb, hQ⟩ := h
  refine ⟨_, pss_one (ps_ret (pf (ok_l_made T) hr (pa_cons (pe_op op_sub (pe_op op_mulX (ix 0) (ix 1)) (pe_op op_mulX (ix 1) (ix 0))) (pa_cons (pe_op op_mulX (ix 0) (ix 1)) pa_nil)))), ?_⟩
  refine ⟨_, rfl, p, _, 0, _, rfl, rfl, hp, rv_0 a, _, rfl, q, _, 1, _, rfl, rfl, hq, rv_1 b, _, _, rfl, rfl, mul_nd sa sb, _, rfl, q, _, 0, _, rfl, rfl, hq, rv_0 b, _, rfl, p, _, 1, _, rfl, rfl, hp, rv_1 a, _, _, rfl, rfl, mul_nd sb sa, _, _, rfl, rfl,
    _, rfl, p, _, 1, _, rfl, rfl, hp, rv_1 a, _, rfl, q, _, 1, _, rfl, rfl, hq, rv_1 b, _, _, rfl, rfl, mul_dd sa sb, _, _, rfl, dd_pos a b, dd_lt sa sb, ?_⟩
  rw [q_sub]; exact hQ
theorem ok_l_times (T : Top K mg) : Has P w K mg base 2 "_law_times" ["_law_one", "_law_other"] (sp2 K fun a b => a * b) := by
  refine mk_has T.d_l_times sc_l_times (fun _ _ _ _ _ _ us hl => match us, hl with | [_, _], _ => rfl) sp2_len (fun f cdv A outer s H vs Q E hr h => ?_)
  obtain ⟨u, v, a, b, rfl, ⟨p, rfl, hp⟩, ⟨q, rfl, hq⟩, sa, sb, hQ⟩ := h
  refine ⟨_, pss_one (ps_ret (pf (ok_l_made T) hr (pa_cons (pe_op op_mulX (ix 0) (ix 1)) (pa_cons (pe_op op_mulX (ix 0) (ix 1)) pa_nil)))), ?_⟩
  refine ⟨_, rfl, p, _, 0, _, rfl, rfl, hp, rv_0 a, _, rfl, q, _, 0, _, rfl, rfl, hq, rv_0 b, _, _, rfl, rfl, mul_nn sa sb,
    _, rfl, p, _, 1, _, rfl, rfl, hp, rv_1 a, _, rfl, q, _, 1, _, rfl, rfl, hq, rv_1 b, _, _, rfl, rfl, mul_dd sa sb, _, _, rfl, dd_pos a b, dd_lt sa sb, ?_⟩
  rw [q_mul]; exact hQ
theorem ok_l_over (T : Top K mg) : Has P w K mg base 2 "_law_over" ["_law_one", "_law_other"] (spOver K) := by
  refine mk_has T.d_l_over sc_l_over (fun _ _ _ _ _ _ us hl => match us, hl with | [_, _], _ => rfl) (fun vs H Q E h => by obtain ⟨u, v, a, b, rfl, _⟩ := h; rfl) (fun f cdv A outer s H vs Q E hr h => ?_)
  obtain ⟨u, v, a, b, rfl, ⟨p, rfl, hp⟩, ⟨q, rfl, hq⟩, sa, sb, h0, hb, hQ⟩ := h
  refine ⟨_, pss_one (ps_ret (pf (ok_l_made T) hr (pa_cons (pe_op op_mulX (ix 0) (ix 1)) (pa_cons (pe_op op_mulX (ix 0) (ix 1)) pa_nil)))), ?_⟩
  refine ⟨_, rfl, p, _, 0, _, rfl, rfl, hp, rv_0 a, _, rfl, q, _, 1, _, rfl, rfl, hq, rv_1 b, _, _, rfl, rfl, mul_nd sa sb,
    _, rfl, p, _, 1, _, rfl, rfl, hp, rv_1 a, _, rfl, q, _, 0, _, rfl, rfl, hq, rv_0 b, _, _, rfl, rfl, mul_dn sa sb, _, _, rfl, dn_pos a h0, ?_, ?_⟩
  · exact wide_lt (i := (a.den : Int)) (j := b.num) (a := 2400) (b := 2400) (by rw [Int.natAbs_natCast]; exact sa.1) hb
  · rw [q_div _ _ (by grind)]; exact hQ
theorem ok_l_below (T : Top K mg) : Has P w K mg base 1 "_law_below" ["_law_one", "_law_other"] (spBelow K) := by
  refine mk_has T.d_l_below sc_l_below (fun _ _ _ _ _ _ us hl => match us, hl with | [_, _], _ => rfl) (fun vs H Q E h => by obtain ⟨u, v, a, b, rfl, _⟩ := h; rfl) (fun f cdv A outer s H vs Q E hr h => ?_)
  obtain ⟨u, v, a, b, rfl, ⟨p, rfl, hp⟩, ⟨q, rfl, hq⟩, sa, sb, hQ⟩ := h
  refine ⟨_, pss_one (ps_ret (pe_cmpR op_lt (pe_op op_mulX (ix 0) (ix 1)) (pe_op op_mulX (ix 1) (ix 0)) (nomark _))), ?_⟩
  refine ⟨_, rfl, p, _, 0, _, rfl, rfl, hp, rv_0 a, _, rfl, q, _, 1, _, rfl, rfl, hq, rv_1 b, _, _, rfl, rfl, mul_nd sa sb, _, rfl, q, _, 0, _, rfl, rfl, hq, rv_0 b, _, rfl, p, _, 1, _, rfl, rfl, hp, rv_1 a, _, _, rfl, rfl, mul_nd sb sa, _, _, rfl, rfl, ?_⟩
  have e : decide (a.num * (b.den : Int) < b.num * (a.den : Int)) = decide (a < b) := by
    rw [decide_eq_decide]; exact (Rat.lt_iff a b).symm
  show Q (.bl (decide (a.num * (b.den : Int) < b.num * (a.den : Int)))) H
  rw [e]; exact hQ
theorem ok_l_middle (T : Top K mg) : Has P w K mg base 3 "_law_middle" ["_law_one", "_law_other", "_law_part"] (spBetween K) := by
  refine mk_has T.d_l_middle sc_l_middle (fun _ _ _ _ _ _ us hl => match us, hl with | [_, _, _], _ => rfl) (fun vs H Q E h => by obtain ⟨u, v, x, a, b, c, rfl, _⟩ := h; rfl) (fun f cdv A outer s H vs Q E hr h => ?_)
  obtain ⟨u, v, x, a, b, c, rfl, hp, hq, hx, sa, sb, sc, s1, s2, hQ⟩ := h
  refine ⟨_, pss_one (ps_ret (pf (ok_l_plus T) hr (pa_cons (pv 0) (pa_cons (pf (ok_l_times T) hr (pa_cons (pv 2) (pa_cons (pf (ok_l_minus T) hr (pa_cons (pv 1) (pa_cons (pv 0) pa_nil))) pa_nil))) pa_nil)))), ?_⟩
  refine ⟨_, rfl, _, rfl, _, rfl, _, rfl, _, _, b, a, rfl, hq, hp, sb, sa, fun H1 v1 e1 r1 => ?_⟩
  refine ⟨_, _, c, b - a, rfl, hx.keep e1, r1, sc, s1, fun H2 v2 e2 r2 => ?_⟩
  exact ⟨_, _, a, c * (b - a), rfl, hp.keep (e1.trans e2), r2, sa, s2, fun H3 v3 e3 r3 => hQ H3 v3 ((e1.trans e2).trans e3) r3⟩
end
end Bc
end
section
set_option linter.all false
namespace Bc
/-! ### mirrors of the law's own functions -/
def lsum : Rat → List Rat → Rat
  | acc, [] => acc
  | acc, c :: cs => lsum (acc + c) cs
def lsumOk : Rat → List Rat → Prop
  | _, [] => True
  | acc, c :: cs => Sm acc ∧ Sm c ∧ lsumOk (acc + c) cs
def slopes : Nat → List Rat → List Rat
  | 0, p => p
  | n + 1, p => pslope (slopes n p)
def onceL : List Rat → List Rat → List Rat
  | acc, [] => acc
  | acc, c :: cs => onceL (acc ++ (if c ∈ acc then [] else [c])) cs
def insPos (x : Rat) : List Rat → Nat
  | [] => 0
  | y :: t => if x < y then 0 else insPos x t + 1
def insL (x : Rat) (l : List Rat) : List Rat := l.take (insPos x l) ++ [x] ++ l.drop (insPos x l)
def sortL : List Rat → List Rat → List Rat
  | acc, [] => acc
  | acc, c :: cs => sortL (insL c acc) cs
/-- the law's basis functions at a place -/
def lbas (t : Nat → Rat) (x : Rat) : Nat → Nat → Rat
  | 0, i => if ¬ x < t i ∧ x < t (i + 1) then 1 else 0
  | d + 1, i => if t (i + 1) = t (i + d + 2) then (if t i = t (i + d + 1) then 0 else (x - t i) / (t (i + d + 1) - t i) * lbas t x d i)
      else (if t i = t (i + d + 1) then 0 else (x - t i) / (t (i + d + 1) - t i) * lbas t x d i) + (t (i + d + 2) - x) / (t (i + d + 2) - t (i + 1)) * lbas t x d (i + 1)
/-- what a quotient asks -/
structure QuOk (a b : Rat) : Prop where
  sa : Sm a
  sb : Sm b
  pos : 0 < b
  nd : b.num.natAbs < 2 ^ 2400
  sq : Sm (a / b)
def lbOk (t : Nat → Rat) (x : Rat) : Nat → Nat → Prop
  | 0, i => Sm (t i) ∧ Sm (t (i + 1))
  | d + 1, i => (t i ≠ t (i + d + 1) → Sm (t i) ∧ Sm (t (i + d + 1)) ∧ QuOk (x - t i) (t (i + d + 1) - t i) ∧ lbOk t x d i ∧ Sm (lbas t x d i)) ∧
      (t (i + 1) ≠ t (i + d + 2) → Sm (t (i + 1)) ∧ Sm (t (i + d + 2)) ∧ QuOk (t (i + d + 2) - x) (t (i + d + 2) - t (i + 1)) ∧ lbOk t x d (i + 1) ∧ Sm (lbas t x d (i + 1)) ∧
        Sm (if t i = t (i + d + 1) then 0 else (x - t i) / (t (i + d + 1) - t i) * lbas t x d i) ∧ Sm ((t (i + d + 2) - x) / (t (i + d + 2) - t (i + 1)) * lbas t x d (i + 1)))
/-- a spline's value, at a place before the last knot -/
def terms (t c : Nat → Rat) (d : Nat) (x : Rat) (n : Nat) : List Rat := (List.range n).map fun i => c i * lbas t x d i
def lval (t c : Nat → Rat) (d : Nat) (x : Rat) (n : Nat) : Rat := lsum 0 (terms t c d x n)
theorem lsum_snoc (acc c : Rat) (l : List Rat) : lsum acc (l ++ [c]) = lsum acc l + c := by
  induction l generalizing acc with
  | nil => rfl
  | cons a t ih => exact ih _
end Bc
end
section
set_option linter.all false
namespace Bc
/-! ### knots as the law draws them -/
/-- a number over D, not above b over D -/
def Gr (D b : Nat) (x : Rat) : Prop := ∃ n : Int, x = (n : Rat) / (D : Rat) ∧ n.natAbs ≤ b
theorem gD_app {l r : List Rat} {i : Nat} (h : i < l.length) : (l ++ r).getD i 0 = l.getD i 0 := by
  unfold List.getD; rw [List.getElem?_append_left h]
theorem gD_app2 {l r : List Rat} {i : Nat} (h : l.length ≤ i) : (l ++ r).getD i 0 = r.getD (i - l.length) 0 := by
  unfold List.getD; rw [List.getElem?_append_right h]
theorem gD_rep {m i : Nat} {x : Rat} (h : i < m) : (List.replicate m x).getD i 0 = x := by
  unfold List.getD; rw [List.getElem?_replicate, if_pos h]; rfl
theorem gD_take {l : List Rat} {n i : Nat} (h : i < n) : (l.take n).getD i 0 = l.getD i 0 := by
  unfold List.getD; rw [List.getElem?_take, if_pos h]
/-- knots but the last ones -/
structure Bas (d : Nat) (l : List Rat) (now : Rat) : Prop where
  len : d + 1 ≤ l.length
  so : ∀ i j, i ≤ j → j < l.length → l.getD i 0 ≤ l.getD j 0
  hd : ∀ i, i ≤ d → l.getD i 0 = l.getD 0 0
  mu : ∀ i, i + d + 1 < l.length → l.getD i 0 < l.getD (i + d + 1) 0
  to : ∀ i, i < l.length → l.getD i 0 ≤ now
theorem Bas.start (d : Nat) (x : Rat) : Bas d (List.replicate (d + 1) x) x := by
  refine ⟨by simp, fun i j h1 h2 => ?_, fun i h => ?_, fun i h => ?_, fun i h => ?_⟩
  · rw [List.length_replicate] at h2
    rw [gD_rep (by omega), gD_rep (by omega)]; exact Rat.le_refl
  · rw [gD_rep (by omega), gD_rep (by omega)]
  · rw [List.length_replicate] at h; omega
  · rw [List.length_replicate] at h
    rw [gD_rep (by omega)]; exact Rat.le_refl
theorem Bas.more {d m : Nat} {l : List Rat} {now x : Rat} (h : Bas d l now) (hx : now < x) (hm : m ≤ d + 1) : Bas d (l ++ List.replicate m x) x := by
  have hx' := Rat.le_of_lt hx
  have hl := h.len
  refine ⟨by rw [List.length_append]; omega, fun i j h1 h2 => ?_, fun i h1 => ?_, fun i h1 => ?_, fun i h1 => ?_⟩
  · rw [List.length_append, List.length_replicate] at h2
    by_cases c1 : j < l.length
    · rw [gD_app c1, gD_app (by omega)]; exact h.so i j h1 c1
    · rw [gD_app2 (i := j) (by omega), gD_rep (by omega)]
      by_cases c2 : i < l.length
      · rw [gD_app c2]; exact Rat.le_trans (h.to i c2) hx'
      · rw [gD_app2 (i := i) (by omega), gD_rep (by omega)]; exact Rat.le_refl
  · rw [gD_app (by omega), gD_app (by omega)]; exact h.hd i h1
  · rw [List.length_append, List.length_replicate] at h1
    by_cases c1 : i + d + 1 < l.length
    · rw [gD_app c1, gD_app (by omega)]; exact h.mu i c1
    · rw [gD_app2 (i := i + d + 1) (by omega), gD_rep (by omega), gD_app (by omega)]
      have := h.to i (by omega)
      grind
  · rw [List.length_append, List.length_replicate] at h1
    by_cases c2 : i < l.length
    · rw [gD_app c2]; exact Rat.le_trans (h.to i c2) hx'
    · rw [gD_app2 (i := i) (by omega), gD_rep (by omega)]; exact Rat.le_refl
theorem Bas.take {d n : Nat} {l : List Rat} {now : Rat} (h : Bas d l now) (hn : d + 1 ≤ n) : Bas d (l.take n) now := by
  have hl := h.len
  refine ⟨by rw [List.length_take]; omega, fun i j h1 h2 => ?_, fun i h1 => ?_, fun i h1 => ?_, fun i h1 => ?_⟩
  · rw [List.length_take] at h2
    rw [gD_take (by omega), gD_take (by omega)]; exact h.so i j h1 (by omega)
  · rw [gD_take (by omega), gD_take (by omega)]; exact h.hd i h1
  · rw [List.length_take] at h1
    rw [gD_take (by omega), gD_take (by omega)]; exact h.mu i (by omega)
  · rw [List.length_take] at h1
    rw [gD_take (by omega)]; exact h.to i (by omega)
/-- knots of a spline -/
structure KnG (d : Nat) (kn : List Rat) : Prop where
  d4 : d ≤ 4
  len2 : 2 * d + 2 ≤ kn.length
  len16 : kn.length ≤ 16
  so : ∀ i j, i ≤ j → j < kn.length → kn.getD i 0 ≤ kn.getD j 0
  hd : ∀ i, i ≤ d → kn.getD i 0 = kn.getD 0 0
  la : ∀ i, kn.length - d - 1 ≤ i → i < kn.length → kn.getD i 0 = kn.getD (kn.length - 1) 0
  mu : ∀ i, i + d + 1 < kn.length → kn.getD i 0 < kn.getD (i + d + 1) 0
  gr : ∀ x ∈ kn, Gr 144 3024 x
  ge : Gr 12 252 (kn.getD 0 0) ∧ Gr 12 252 (kn.getD (kn.length - 1) 0)
theorem Gr.up {x : Rat} (h : Gr 12 252 x) : Gr 144 3024 x := by
  obtain ⟨n, rfl, h⟩ := h
  refine ⟨n * 12, by grind, by omega⟩
theorem mem_getD {l : List Rat} {i : Nat} (h : i < l.length) : l.getD i 0 ∈ l := by
  unfold List.getD; rw [List.getElem?_eq_getElem h]; exact List.getElem_mem h
theorem Bas.kn {d : Nat} {l : List Rat} {now hi : Rat} (h : Bas d l now) (hn : now < hi) (hd : d ≤ 4) (hl : l.length + d + 1 ≤ 16) (hg : ∀ x ∈ l ++ List.replicate (d + 1) hi, Gr 12 252 x) : KnG d (l ++ List.replicate (d + 1) hi) := by
  have h2 := h.more hn (m := d + 1) (Nat.le_refl _)
  have hle := h.len
  have hlen : (l ++ List.replicate (d + 1) hi).length = l.length + (d + 1) := by rw [List.length_append, List.length_replicate]
  refine ⟨hd, by omega, by omega, h2.so, h2.hd, fun i h3 h4 => ?_, h2.mu, fun x hx => (hg x hx).up, hg _ (mem_getD (by omega)), hg _ (mem_getD (by omega))⟩
  rw [hlen] at h3 h4
  rw [gD_app2 (i := i) (by omega), gD_rep (by omega), hlen, gD_app2 (by omega), gD_rep (by omega)]
theorem Gr.add {D b c : Nat} (hD : 0 < D) {x y : Rat} (h : Gr D b x) (g : Gr D c y) : Gr D (b + c) (x + y) := by
  obtain ⟨n, rfl, h⟩ := h
  obtain ⟨m, rfl, g⟩ := g
  exact ⟨n + m, by grind, by omega⟩
theorem Gr.mono {D b c : Nat} {x : Rat} (h : Gr D b x) (hb : b ≤ c) : Gr D c x := by
  obtain ⟨n, rfl, h⟩ := h
  exact ⟨n, rfl, by omega⟩
theorem Gr.lat {x : Rat} {D b k : Nat} (h : Gr D b x) (hD : 0 < D) (hb : b < 2 ^ k) : Lat D k x := by
  obtain ⟨n, rfl, h⟩ := h
  have hD' := natc_ne hD
  exact ⟨n, by grind, Nat.lt_of_le_of_lt h hb⟩
theorem Gr.sm {x : Rat} {D b : Nat} (h : Gr D b x) (hD : 0 < D) (hD2 : D < 2 ^ 64) (hb : b < 2 ^ 64) : Sm x :=
  (h.lat hD hb).sm hD (Nat.lt_trans hD2 (Nat.pow_lt_pow_right (by decide) (by decide))) (by decide)
end Bc
end
section
set_option Elab.async false
set_option linter.all false
set_option maxRecDepth 100000
set_option maxHeartbeats 4000000
set_option exponentiation.threshold 200000
namespace Bc
open PySem PySem.Spec PyProof.Rows L2
theorem lsumOk_at : ∀ {l : List Rat} {acc : Rat} {i : Nat} {c : Rat}, lsumOk acc l → l[i]? = some c → Sm (lsum acc (l.take i)) ∧ Sm c
  | [], _, _, _, _, h => by simp at h
  | a :: l, acc, 0, c, ⟨h1, h2, _⟩, h => by
    simp at h; subst h; exact ⟨h1, h2⟩
  | a :: l, acc, i + 1, c, ⟨_, _, h3⟩, h => lsumOk_at (l := l) (acc := acc + a) h3 (by simpa using h)
theorem pslope_at {p : List Rat} {i : Nat} {c : Rat} (h : p[i + 1]? = some c) : (pslope p)[i]? = some (c * ((i + 1 : Nat) : Rat)) := by
  unfold pslope
  rw [List.getElem?_drop, Nat.add_comm 1 i, sl1_at p 0 (i + 1) c h, Nat.zero_add]
theorem pslope_len (p : List Rat) : (pslope p).length = p.length - 1 := by unfold pslope; rw [List.length_drop, sl1_len]
theorem insPos_le (x : Rat) : ∀ l, insPos x l ≤ l.length
  | [] => Nat.le_refl 0
  | y :: t => by
    show (if x < y then 0 else insPos x t + 1) ≤ t.length + 1
    have := insPos_le x t
    split <;> omega
/-- the first place from number k on at which a larger one stands -/
theorem insPos_step {x : Rat} : ∀ {l : List Rat} {k : Nat} {y : Rat}, l[k]? = some y → k ≤ insPos x l → ((x < y → insPos x l = k) ∧ (¬ x < y → k + 1 ≤ insPos x l))
  | [], k, y, h, _ => by simp at h
  | a :: l, 0, y, h, _ => by
    simp at h; subst h
    refine ⟨fun e => ?_, fun e => ?_⟩
    · show (if x < a then 0 else insPos x l + 1) = 0
      rw [if_pos e]
    · show 1 ≤ (if x < a then 0 else insPos x l + 1)
      rw [if_neg e]; omega
  | a :: l, k + 1, y, h, hk => by
    have hk' : k + 1 ≤ (if x < a then 0 else insPos x l + 1) := hk
    by_cases e : x < a
    · rw [if_pos e] at hk'; omega
    · rw [if_neg e] at hk'
      obtain ⟨h1, h2⟩ := insPos_step (x := x) (l := l) (k := k) (y := y) (by simpa using h) (by omega)
      refine ⟨fun f => ?_, fun f => ?_⟩
      · show (if x < a then 0 else insPos x l + 1) = k + 1
        rw [if_neg e, h1 f]
      · show k + 1 + 1 ≤ (if x < a then 0 else insPos x l + 1)
        rw [if_neg e]; have := h2 f; omega
theorem insL_len (x : Rat) (l : List Rat) : (insL x l).length = l.length + 1 := by
  have := insPos_le x l
  unfold insL
  simp only [List.length_append, List.length_take, List.length_drop, List.length_cons, List.length_nil]
  omega
theorem insL_mem {x a : Rat} {l : List Rat} (h : a ∈ insL x l) : a = x ∨ a ∈ l := by
  unfold insL at h
  rcases List.mem_append.mp h with h | h
  · rcases List.mem_append.mp h with h | h
    · exact .inr (List.mem_of_mem_take h)
    · exact .inl (List.mem_singleton.mp h)
  · exact .inr (List.mem_of_mem_drop h)
theorem sortL_take : ∀ (l acc : List Rat) (i : Nat) (c : Rat), l[i]? = some c → sortL acc (l.take (i + 1)) = insL c (sortL acc (l.take i))
  | [], _, _, _, h => by simp at h
  | a :: l, acc, 0, c, h => by simp at h; subst h; rfl
  | a :: l, acc, i + 1, c, h => sortL_take l (insL a acc) i c (by simpa using h)
theorem sortL_len : ∀ (l acc : List Rat), (sortL acc l).length = acc.length + l.length
  | [], acc => rfl
  | a :: l, acc => by show (sortL (insL a acc) l).length = _; rw [sortL_len l, insL_len, List.length_cons]; omega
theorem sortL_mem : ∀ {l acc : List Rat} {a : Rat}, a ∈ sortL acc l → a ∈ acc ∨ a ∈ l
  | [], acc, a, h => .inl h
  | b :: l, acc, a, h => by
    rcases sortL_mem (l := l) (acc := insL b acc) h with h | h
    · rcases insL_mem h with h | h
      · exact .inr (h ▸ List.mem_cons_self)
      · exact .inl h
    · exact .inr (List.mem_cons_of_mem _ h)
theorem onceL_take : ∀ (l acc : List Rat) (i : Nat) (c : Rat), l[i]? = some c → onceL acc (l.take (i + 1)) = onceL acc (l.take i) ++ (if c ∈ onceL acc (l.take i) then [] else [c])
  | [], _, _, _, h => by simp at h
  | a :: l, acc, 0, c, h => by simp at h; subst h; rfl
  | a :: l, acc, i + 1, c, h => onceL_take l _ i c (by simpa using h)
theorem onceL_len : ∀ (l acc : List Rat), (onceL acc l).length ≤ acc.length + l.length
  | [], acc => Nat.le_refl _
  | a :: l, acc => by
    have := onceL_len l (acc ++ (if a ∈ acc then [] else [a]))
    show (onceL _ l).length ≤ _
    have h2 : (acc ++ (if a ∈ acc then [] else [a])).length ≤ acc.length + 1 := by
      rw [List.length_append]; split <;> simp
    rw [List.length_cons]; omega
section
variable {P : Program} {w : World} {K : PySem.W.Frag} {mg : Str → Option Value} {base : Heap}
theorem rt_z {H : Hp} {p : Addr} (hp : H p = none) : Rt K (upd H p (.tup [.int 0, .int 1])) (.ref p) 0 := ⟨p, rfl, SqT.of upd_same⟩
theorem rt_u {H : Hp} {p : Addr} (hp : H p = none) : Rt K (upd H p (.tup [.int 1, .int 1])) (.ref p) 1 := ⟨p, rfl, SqT.of upd_same⟩
def spLSum (K : PySem.W.Frag) : Sp := fun vs H Q _ => ∃ u l, vs = [u] ∧ Lis K H u l ∧ lsumOk 0 l ∧ WR K H Q (lsum 0 l)
theorem ok_l_sum (T : Top K mg) : Has P w K mg base 3 "_law_sum" ["_law_some"] (spLSum K) := by
  refine mk_has T.d_l_sum sc_l_sum (fun _ _ _ _ _ _ us hl => match us, hl with | [_], _ => rfl) (fun vs H Q E h => by obtain ⟨u, l, rfl, _⟩ := h; rfl) (fun f cdv A outer s H vs Q E hr h => ?_)
  obtain ⟨u, l, rfl, ⟨a, xs, rfl, hS, hP⟩, ok, hQ⟩ := h
  have hl := Paired.length hP
  refine ⟨_, pss_cons (ps_set (i := 1) sc_l_sum.nd rfl (.inl rfl) (pe_tup (a2 pe_int pe_int)))
    (pss_cons (ps_for PassesOwn.never rfl (pi_list (pv 0)) (pg_name (i := 2) sc_l_sum.nd rfl (.inl rfl)) (pss_one (ps_set (i := 1) sc_l_sum.nd rfl (.inl rfl) (pf (ok_l_plus T) hr (a2 (pv 1) (pv 2))))))
    (pss_one (ps_ret (pv 1)))), ?_⟩
  refine ⟨(by show 2 ≤ sizeLine; decide), fun z hz => ?_⟩
  have s0 := same_upd (o := .tup [.int 0, .int 1]) hz
  refine ⟨_, rfl, a, rfl, ⟨_, s0.seq hS⟩, for_list (xs := xs) (fun i σ H1 => ∃ q o, σ = [some (.ref a), some q, o] ∧ Same H H1 ∧ Rt K H1 q (lsum 0 (l.take i))) ⟨_, _, rfl, s0, rt_z hz⟩ (fun i σ H1 _ hI => ?_) (fun i x σ H1 hx hI => ?_) (fun σ H1 hI => ?_)⟩
  · obtain ⟨_, _, _, sm, _⟩ := hI
    exact sm.seq hS
  · obtain ⟨q, o, rfl, sm, rq⟩ := hI
    obtain ⟨x', hx', rx⟩ := pr_get2 hP hx
    obtain ⟨k1, k2⟩ := lsumOk_at ok hx'
    refine ⟨_, rfl, _, rfl, _, _, _, x', rfl, rq, rx.keep sm, k1, k2, fun H2 v2 e2 r2 => ⟨_, _, rfl, sm.trans e2, ?_⟩⟩
    rw [take_next hx', lsum_snoc]; exact r2
  · obtain ⟨q, o, rfl, sm, rq⟩ := hI
    rw [List.take_of_length_le (by omega)] at rq
    exact ⟨_, rfl, hQ _ _ sm rq⟩
theorem ok_l_at (T : Top K mg) : Has P w K mg base 3 "_law_at" ["_law_poly", "_law_x"] (spAt K) := by
  refine mk_has T.d_l_at sc_l_at (fun _ _ _ _ _ _ us hl => match us, hl with | [_, _], _ => rfl) (fun vs H Q E h => by obtain ⟨u, v, p, x, rfl, _⟩ := h; rfl) (fun f cdv A outer s H vs Q E hr h => ?_)
  obtain ⟨u, v, p, x, rfl, ⟨a, xs, rfl, hS, hP⟩, hx, sx, hlen, ok, hQ⟩ := h
  have hl := Paired.length hP
  refine ⟨_, pss_cons (ps_set (i := 2) sc_l_at.nd rfl (.inl rfl) (pe_tup (a2 pe_int pe_int)))
    (pss_cons (ps_for PassesOwn.never rfl (pi_tup (pe_revT (pv 0))) (pg_name (i := 3) sc_l_at.nd rfl (.inl rfl))
      (pss_one (ps_set (i := 2) sc_l_at.nd rfl (.inl rfl) (pf (ok_l_plus T) hr (pa_cons (pf (ok_l_times T) hr (pa_cons (pv 2) (a1 (pv 1)))) (a1 (pv 3)))))))
    (pss_one (ps_ret (pv 2)))), ?_⟩
  refine ⟨(by show 2 ≤ sizeLine; decide), fun z hz => ?_⟩
  have s0 := same_upd (o := .tup [.int 0, .int 1]) hz
  refine ⟨.ref a, rfl, a, xs, rfl, seqT_keep s0 hS, fun b hb => ?_⟩
  have s1 := s0.trans (same_upd (o := .tup xs.reverse) hb)
  refine ⟨b, rfl, ⟨_, SqT.of upd_same⟩, for_tup (xs := xs.reverse) (fun i σ H1 => ∃ f o, σ = [some (.ref a), some v, some f, o] ∧ Same H H1 ∧ SqT K H1 b xs.reverse ∧ Rt K H1 f (hor x 0 (p.reverse.take i))) ?_ (fun i σ H1 _ hI => ?_) (fun i c σ H1 hc hI => ?_) (fun σ H1 hI => ?_)⟩
  · exact ⟨_, _, rfl, s1, SqT.of upd_same, (rt_z hz).keep (same_upd hb)⟩
  · obtain ⟨f, o, _, _, sq, _⟩ := hI
    exact sq
  · obtain ⟨f, o, rfl, sm, sq, hf⟩ := hI
    obtain ⟨c', hc', hr'⟩ := pr_get2 (pr_rev hP) hc
    obtain ⟨k1, k2, k3⟩ := horOk_drop _ _ _ _ ok hc'
    refine ⟨_, rfl, _, rfl, _, _, _, x, rfl, hf, hx.keep sm, k1, sx, fun H2 v2 e2 r2 => ?_⟩
    refine ⟨_, rfl, _, _, _, _, rfl, r2, hr'.keep (sm.trans e2), k2, k3, fun H3 v3 e3 r3 => ?_⟩
    exact ⟨_, _, rfl, (sm.trans e2).trans e3, seqT_keep (e2.trans e3) sq, by rw [hor_take hc']; exact r3⟩
  · obtain ⟨f, o, rfl, sm, sq, hf⟩ := hI
    refine ⟨_, rfl, hQ _ _ sm ?_⟩
    rw [List.take_of_length_le (by rw [List.length_reverse, List.length_reverse]; omega)] at hf
    exact hf
theorem ok_l_p_slope (T : Top K mg) : Has P w K mg base 3 "_law_p_slope" ["_law_poly"] (spSlope K) := by
  refine mk_has T.d_l_p_slope sc_l_p_slope (fun _ _ _ _ _ _ us hl => match us, hl with | [_], _ => rfl) (fun vs H Q E h => by obtain ⟨u, p, rfl, _⟩ := h; rfl) (fun f cdv A outer s H vs Q E hr h => ?_)
  obtain ⟨u, p, rfl, ⟨a, xs, rfl, hS, hP⟩, sp, hlen, hQ⟩ := h
  have hl := Paired.length hP
  refine ⟨_, pss_one (ps_ret (pe_callTy call_tuple_of (by rfl) T.b_tuple (by decide +kernel) (a1 (pe_lc (own := [("_law_power", 1)]) (g := gName 1) (te := tCall (sp2 K fun a b => a * b) [] E0 (tCons (tOp (rIxT K) (tVar 0) (tVar 1)) (tCons (tTup (tCons (tVar 1) (tCons (tC (.int 1)) tNil))) tNil))) rfl sc_l_p_slope.nd (pi_range2 (by rfl) T.b_range (a2 pe_int (pe_callB call_len_seq (by rfl) T.b_len PySem.boot_len (a1 (pv 0)))))
      (blkOk_by (own := [("_law_power", 1)]) (N := n_l_p_slope) (sc := defScope s_l_p_slope) (by decide +kernel))
      (fun _ _ _ _ _ => pg_name (i := 1) sc_l_p_slope.nd rfl (Or.inl rfl)) (fun _ _ _ _ _ => pts_nil)
      (fun _ _ _ _ _ => pf (ok_l_times T) hr (a2 (pe_ix ix_tup (pv 0) (pv 1) (fun _ _ => rfl)) (pe_tup (a2 (pv 1) pe_int)))))))), ?_⟩
  refine ⟨.ref a, rfl, a, xs, rfl, .inr hS, 1, _, rfl, ⟨by omega, by omega, by omega, by omega⟩, fun D hD => ?_⟩
  refine lc_range (n := ((xs.length : Int) - 1).toNat) (fun i H1 => Same H H1 ∧ ∃ acc, H1 D = some (.lst acc) ∧ RtL K H1 acc ((pslope p).take i)) ⟨same_upd hD, [], upd_same, .nil⟩ (fun i H1 hi hI => ?_) (fun H1 hI => ?_)
  · obtain ⟨sm, acc, hA, hR⟩ := hI
    have i1 : i + 1 < p.length := by omega
    obtain ⟨y, hy, ry⟩ := pr_get (rtl_keep hP sm) (at_getD i1)
    have hsl := pslope_at (at_getD i1)
    have hla := Paired.length hR
    rw [List.length_take, pslope_len] at hla
    refine ⟨rfl, _, rfl, _, rfl, a, xs, _, y, rfl, rfl, seqT_keep sm hS, at_of (j := i + 1) (by omega) hy, _, rfl, (by show 2 ≤ sizeLine; decide), fun t2 ht2 => ?_⟩
    refine ⟨_, _, _, ((i + 1 : Nat) : Rat), rfl, ry.keep (same_upd ht2), ⟨t2, rfl, SqT.of ?_⟩, sp _ (List.mem_of_getElem? (at_getD i1)), sm_nat (by omega), fun H2 v2 e2 r2 => ?_⟩
    · rw [upd_same, rv_nat, show (1 : Int) + (i : Int) = ((i + 1 : Nat) : Int) by omega]
    · have s2 := (same_upd (o := .tup [.int (1 + (i : Int)), .int 1]) ht2).trans e2
      have hA2 := s2 _ _ hA
      refine ⟨acc, hA2, sz1 (by omega), same_new (sm.trans s2) hD, _, upd_same, ?_⟩
      rw [take_next hsl]
      exact pr_append (rtl_upd hA2 (rtl_keep hR s2)) (.cons (rt_upd hA2 r2) .nil)
  · obtain ⟨sm, acc, hA, hR⟩ := hI
    rw [List.take_of_length_le (by rw [pslope_len]; omega)] at hR
    exact ⟨D, acc, rfl, .inl ⟨SqL.of hA, fun c hc => hQ _ _ (sm.trans (same_upd hc)) ⟨c, acc, rfl, SqT.of upd_same, rtl_keep hR (same_upd hc)⟩⟩⟩
def spLSlopes (K : PySem.W.Frag) : Sp := fun vs H Q _ => ∃ u p n, vs = [u, .int ((n : Nat) : Int)] ∧ Pol K H u p ∧ n ≤ 100 ∧ p.length ≤ 1000 ∧ (∀ k, k < n → ∀ a ∈ slopes k p, Sm a) ∧ WP K H Q (slopes n p)
theorem slopes_len (p : List Rat) : ∀ n, (slopes n p).length ≤ p.length
  | 0 => Nat.le_refl _
  | n + 1 => by
    have := slopes_len p n
    show (pslope (slopes n p)).length ≤ _
    rw [pslope_len]; omega
theorem ok_l_slopes (T : Top K mg) : Has P w K mg base 4 "_law_slopes" ["_law_poly", "_law_many"] (spLSlopes K) := by
  refine mk_has T.d_l_slopes sc_l_slopes (fun _ _ _ _ _ _ us hl => match us, hl with | [_, _], _ => rfl) (fun vs H Q E h => by obtain ⟨u, p, n, rfl, _⟩ := h; rfl) (fun f cdv A outer s H vs Q E hr h => ?_)
  obtain ⟨u, p, n, rfl, hp, hn, hlen, ok, hQ⟩ := h
  refine ⟨_, pss_cons (ps_set (i := 2) sc_l_slopes.nd rfl (.inl rfl) (pv 0))
    (pss_cons (ps_for PassesOwn.never rfl (pi_range1 (by rfl) T.b_range (a1 (pv 1))) (pg_name (i := 3) sc_l_slopes.nd rfl (.inl rfl)) (pss_one (ps_set (i := 2) sc_l_slopes.nd rfl (.inl rfl) (pf (ok_l_p_slope T) hr (a1 (pv 2))))))
    (pss_one (ps_ret (pv 2)))), ?_⟩
  refine ⟨_, rfl, _, rfl, _, rfl, by omega, by omega, ?_⟩
  refine for_range (n := ((n : Int)).toNat) (fun i σ H1 => ∃ q o, σ = [some u, some (.int (n : Int)), some q, o] ∧ Same H H1 ∧ Pol K H1 q (slopes i p)) ⟨_, _, rfl, Same.refl _, hp⟩ (fun i σ H1 hi hI => ?_) (fun σ H1 hI => ?_)
  · obtain ⟨q, o, rfl, sm, hq⟩ := hI
    have := slopes_len p i
    exact ⟨_, rfl, _, _, rfl, hq, ok i (by omega), by omega, fun H2 v2 e2 r2 => ⟨_, _, rfl, sm.trans e2, r2⟩⟩
  · obtain ⟨q, o, rfl, sm, hq⟩ := hI
    rw [Int.toNat_natCast] at hq
    exact ⟨_, rfl, hQ _ _ sm hq⟩
def spOnce (K : PySem.W.Frag) : Sp := fun vs H Q _ => ∃ u l, vs = [u] ∧ Lis K H u l ∧ l.length ≤ 900 ∧ ∀ H' v, Same H H' → Lis K H' v (onceL [] l) → Q v H'
theorem ok_l_once (T : Top K mg) : Has P w K mg base 1 "_law_once" ["_law_some"] (spOnce K) := by
  refine mk_has T.d_l_once sc_l_once (fun _ _ _ _ _ _ us hl => match us, hl with | [_], _ => rfl) (fun vs H Q E h => by obtain ⟨u, l, rfl, _⟩ := h; rfl) (fun f cdv A outer s H vs Q E hr h => ?_)
  obtain ⟨u, l, rfl, ⟨a, xs, rfl, hS, hP⟩, hlen, hQ⟩ := h
  have hl := Paired.length hP
  have hu : A.units + 3 + 65 < cLine := by have := hr.un; show A.units + 3 + 65 < cLine; have e : (A.deeper (envOfC "_law_once" (defScope s_l_once) s.heap.objs.size f cdv)).units = A.units + 3 := rfl; omega
  refine ⟨_, pss_cons (ps_set (i := 1) sc_l_once.nd rfl (.inl rfl) (pe_lst pa_nil))
    (pss_cons (ps_for PassesOwn.never rfl (pi_list (pv 0)) (pg_name (i := 2) sc_l_once.nd rfl (.inl rfl)) (pss_one (ps_set (i := 1) sc_l_once.nd rfl (.inl rfl) (pe_op op_cat (pv 1) (pe_ifExp (pt_cmpR (op_notInD hu) (pv 2) (pv 1) (by rfl)) (pe_lst (a1 (pv 2))) (pe_lst pa_nil))))))
    (pss_one (ps_ret (pv 1)))), ?_⟩
  refine ⟨Nat.zero_le _, fun D hD => ?_⟩
  have s0 := same_upd (o := .lst []) hD
  refine ⟨_, rfl, a, rfl, ⟨_, s0.seq hS⟩, for_list (xs := xs) (fun i σ H1 => ∃ F o fs, σ = [some (.ref a), some (.ref F), o] ∧ Same H H1 ∧ H1 F = some (.lst fs) ∧ RtL K H1 fs (onceL [] (l.take i))) ⟨_, _, [], rfl, s0, upd_same, .nil⟩ (fun i σ H1 _ hI => ?_) (fun i x σ H1 hx hI => ?_) (fun σ H1 hI => ?_)⟩
  · obtain ⟨_, _, _, _, sm, _⟩ := hI
    exact sm.seq hS
  · obtain ⟨F, o, fs, rfl, sm, hF, hR⟩ := hI
    obtain ⟨x', hx', rx⟩ := pr_get2 hP hx
    have hi : i < l.length := (List.getElem?_eq_some_iff.mp hx').1
    have hfl := Paired.length hR
    have hol := onceL_len (l.take i) []
    rw [List.length_take] at hol
    have hol' : fs.length ≤ 900 := by simp at hol; omega
    have fin : ∀ (H2 : Hp) (G : Addr) (gs : List V) (r : List Rat), Same H1 H2 → H2 G = some (.lst gs) → RtL K H2 gs r → gs.length ≤ 1 → onceL [] (l.take (i + 1)) = onceL [] (l.take i) ++ r →
        rCat (.ref F) (.ref G) H2 (fun v H3 => gName 1 v [some (.ref a), some (.ref F), some x] H3 fun σ H1 => ∃ F o fs, σ = [some (.ref a), some (.ref F), o] ∧ Same H H1 ∧ H1 F = some (.lst fs) ∧ RtL K H1 fs (onceL [] (l.take (i + 1)))) := fun H2 G gs r e2 hG hgr hgl eo => by
      refine ⟨_, _, _, _, rfl, rfl, e2 _ _ hF, hG, sz2 (by omega), fun p hp => ?_⟩
      refine ⟨p, _, _, rfl, sm.trans (e2.trans (same_upd hp)), upd_same, ?_⟩
      rw [eo]
      exact pr_append (rtl_keep hR (e2.trans (same_upd hp))) (rtl_keep hgr (same_upd hp))
    have eo := onceL_take l [] i x' hx'
    refine ⟨_, rfl, _, rfl, _, rfl, rD x', (onceL [] (l.take i)).map rD, rD_dp (rx.keep sm), .lst (SqL.of hF) (rDs_dp hR), rD_shaped _, rDl_shaped _, _, rfl, ?_⟩
    rw [any_rD]
    by_cases e : x' ∈ onceL [] (l.take i)
    · rw [decide_eq_true e]
      rw [if_pos e] at eo
      exact iteF ⟨Nat.zero_le _, fun p hp => fin _ p [] [] (same_upd hp) upd_same .nil (Nat.zero_le _) eo⟩
    · rw [decide_eq_false e]
      rw [if_neg e] at eo
      exact iteT ⟨_, rfl, (by show 1 ≤ sizeLine; decide), fun p hp => fin _ p [x] [x'] (same_upd hp) upd_same (.cons (rx.keep (sm.trans (same_upd hp))) .nil) (Nat.le_refl _) eo⟩
  · obtain ⟨F, o, fs, rfl, sm, hF, hR⟩ := hI
    rw [List.take_of_length_le (by omega)] at hR
    exact ⟨_, rfl, hQ _ _ sm ⟨F, fs, rfl, SqL.of hF, hR⟩⟩
def spSorted (K : PySem.W.Frag) : Sp := fun vs H Q _ => ∃ u l, vs = [u] ∧ Pol K H u l ∧ l.length ≤ 900 ∧ (∀ a ∈ l, Sm a) ∧ ∀ H' v, Same H H' → Lis K H' v (sortL [] l) → Q v H'
theorem ok_l_sorted (T : Top K mg) : Has P w K mg base 2 "_law_sorted" ["_law_some"] (spSorted K) := by
  refine mk_has T.d_l_sorted sc_l_sorted (fun _ _ _ _ _ _ us hl => match us, hl with | [_], _ => rfl) (fun vs H Q E h => by obtain ⟨u, l, rfl, _⟩ := h; rfl) (fun f cdv A outer s H vs Q E hr h => ?_)
  obtain ⟨u, l, rfl, ⟨a, xs, rfl, hS, hP⟩, hlen, sl, hQ⟩ := h
  have hl := Paired.length hP
  refine ⟨_, pss_cons (ps_set (i := 1) sc_l_sorted.nd rfl (.inl rfl) (pe_lst pa_nil))
    (pss_cons (ps_for PassesOwn.never rfl (pi_tup (pv 0)) (pg_name (i := 2) sc_l_sorted.nd rfl (.inl rfl))
      (pss_cons (ps_set (i := 3) sc_l_sorted.nd rfl (.inl rfl) pe_int)
      (pss_cons (ps_while PassesOwn.never (PW.pt (pw_and (pt_cmpR op_lt (pv 3) (pe_callB call_len_seq (by rfl) T.b_len PySem.boot_len (a1 (pv 1))) (nomark _)) (pw_and1 (pt_not (pt_val (pf (ok_l_below T) hr (a2 (pv 2) (pe_ix ix_list (pv 1) (pv 3) (fun _ _ => rfl)))))))))
        (pss_one (ps_set (i := 3) sc_l_sorted.nd rfl (.inl rfl) (pe_op op_add (pv 3) pe_int))))
      (pss_one (ps_set (i := 1) sc_l_sorted.nd rfl (.inl rfl) (pe_op op_cat (pe_op op_cat (pe_slice sl_list (pv 1) po_none (po_some (pv 3))) (pe_lst (a1 (pv 2)))) (pe_slice sl_list (pv 1) (po_some (pv 3)) po_none)))))))
    (pss_one (ps_ret (pv 1)))), ?_⟩
  refine ⟨Nat.zero_le _, fun D hD => ?_⟩
  have s0 := same_upd (o := .lst []) hD
  refine ⟨_, rfl, a, rfl, ⟨_, seqT_keep s0 hS⟩, for_tup (xs := xs) (fun i σ H1 => ∃ F o2 o3 fs, σ = [some (.ref a), some (.ref F), o2, o3] ∧ Same H H1 ∧ H1 F = some (.lst fs) ∧ RtL K H1 fs (sortL [] (l.take i))) ⟨_, _, _, [], rfl, s0, upd_same, .nil⟩ (fun i σ H1 _ hI => ?_) (fun i x σ H1 hx hI => ?_) (fun σ H1 hI => ?_)⟩
  · obtain ⟨_, _, _, _, _, sm, _⟩ := hI
    exact seqT_keep sm hS
  · obtain ⟨F, o2, o3, fs, rfl, sm, hF, hR⟩ := hI
    obtain ⟨x', hx', rx⟩ := pr_get2 hP hx
    have hi : i < l.length := (List.getElem?_eq_some_iff.mp hx').1
    have hfl := Paired.length hR
    have hsl := sortL_len (l.take i) []
    rw [List.length_take] at hsl
    have hol' : fs.length ≤ 900 := by simp at hsl; omega
    have eo := sortL_take l [] i x' hx'
    have hsm : ∀ b ∈ sortL [] (l.take i), Sm b := fun b hb => by
      rcases sortL_mem hb with h | h
      · cases h
      · exact sl b (List.mem_of_mem_take h)
    generalize sortL [] (l.take i) = cur at hR hfl hsl eo hsm
    have ipl := insPos_le x' cur
    refine ⟨fun m σ H2 => ∃ k : Nat, m = cur.length - k ∧ σ = [some (.ref a), some (.ref F), some x, some (.int (k : Int))] ∧ H2 = H1 ∧ k ≤ insPos x' cur, ⟨cur.length, 0, by omega, rfl, rfl, Nat.zero_le _⟩, ?_⟩
    rintro m σ H2 ⟨k, rfl, rfl, rfl, hk⟩
    -- behind the while
    have fin : k = insPos x' cur → _ := fun ek => (show tAsg (tOp rCat (tOp rCat (tSl (rSlL K) (tVar 1) tNoPart (tPart (tVar 3))) (tLst (tCons (tVar 2) tNil))) (tSl (rSlL K) (tVar 1) (tPart (tVar 3)) tNoPart)) (gName 1)
        { nx := fun σ H1 => ∃ F o2 o3 fs, σ = [some (.ref a), some (.ref F), o2, o3] ∧ Same H H1 ∧ H1 F = some (.lst fs) ∧ RtL K H1 fs (sortL [] (l.take (i + 1))), rt := Q, bk := fun _ _ => False, ct := fun σ H1 => ∃ F o2 o3 fs, σ = [some (.ref a), some (.ref F), o2, o3] ∧ Same H H1 ∧ H1 F = some (.lst fs) ∧ RtL K H1 fs (sortL [] (l.take (i + 1))) }
        [some (.ref a), some (.ref F), some x, some (.int (k : Int))] H2 from by
      refine ⟨_, rfl, _, rfl, _, rfl, F, fs, rfl, SqL.of hF, fun b1 hb1 => ?_⟩
      refine ⟨_, rfl, (by show 1 ≤ sizeLine; decide), fun b2 hb2 => ?_⟩
      have e2 := (same_upd (o := .lst (cutV fs none (some (k : Int)))) hb1).trans (same_upd (o := .lst [x]) hb2)
      have n12 : b1 ≠ b2 := ne_of_none upd_same hb2
      refine ⟨b1, b2, _, _, rfl, rfl, same_upd hb2 _ _ upd_same, upd_same, ?_, fun b3 hb3 => ?_⟩
      · rw [cutV_to fs k (by omega), List.length_take]; exact sz2 (by show _ + 1 ≤ _; omega)
      have e3 := e2.trans (same_upd (o := .lst (cutV fs none (some (k : Int)) ++ [x])) hb3)
      refine ⟨_, rfl, _, rfl, _, rfl, F, fs, rfl, SqL.of (e3 _ _ hF), fun b4 hb4 => ?_⟩
      have e4 := e3.trans (same_upd (o := .lst (cutV fs (some (k : Int)) none)) hb4)
      refine ⟨b3, b4, _, _, rfl, rfl, same_upd hb4 _ _ upd_same, upd_same, ?_, fun b5 hb5 => ?_⟩
      · rw [cutV_to fs k (by omega), cutV_from fs k (by omega), List.length_append, List.length_take, List.length_drop]; exact sz2 (by show _ + 1 + _ ≤ _; omega)
      have e5 := e4.trans (same_upd (o := .lst ((cutV fs none (some (k : Int)) ++ [x]) ++ cutV fs (some (k : Int)) none)) hb5)
      refine ⟨b5, _, _, _, rfl, sm.trans e5, upd_same, ?_⟩
      rw [eo]
      have r5 := rtl_keep hR e5
      rw [cutV_to fs k (by omega), cutV_from fs k (by omega)] at r5 ⊢
      unfold insL
      rw [← ek]
      exact pr_append (pr_append (pr_take _ r5) (.cons (rx.keep (sm.trans (by rw [cutV_to fs k (by omega), cutV_from fs k (by omega)] at e5; exact e5))) .nil)) (pr_drop _ r5))
    refine ⟨_, rfl, _, rfl, F, fs, rfl, .inl (SqL.of hF), _, _, rfl, rfl, _, rfl, ite2 (fun e => ?_) (fun e => ?_)⟩
    · have hkl : k < cur.length := by have := of_decide_eq_true e; omega
      obtain ⟨y, hy, ry⟩ := pr_get hR (at_getD hkl)
      obtain ⟨p1, p2⟩ := insPos_step (x := x') (at_getD hkl) hk
      refine ⟨_, rfl, _, rfl, _, rfl, F, fs, _, y, rfl, rfl, SqL.of hF, at_of (j := k) rfl hy, _, _, x', _, rfl, rx.keep sm, ry, sl _ (List.mem_of_getElem? hx'), hsm _ (List.mem_of_getElem? (at_getD hkl)), _, rfl, ?_⟩
      by_cases e2 : x' < cur.getD k 0
      · rw [decide_eq_true e2]
        exact iteF (fin (p1 e2).symm)
      · rw [decide_eq_false e2]
        refine iteT ⟨fun σ' H' => σ' = [some (.ref a), some (.ref F), some x, some (.int ((k + 1 : Nat) : Int))] ∧ H' = H2, fun σ' H' hN => ⟨cur.length - (k + 1), by omega, k + 1, rfl, hN.1, hN.2, p2 e2⟩, _, rfl, _, _, rfl, rfl, ?_⟩
        refine ⟨?_, rfl⟩
        show [some (V.ref a), some (.ref F), some x, some (.int ((k : Int) + 1))] = _
        rw [show (k : Int) + 1 = ((k + 1 : Nat) : Int) by omega]
    · have : ¬ (k : Int) < (fs.length : Int) := fun z => e (decide_eq_true z)
      exact iteF (fin (by omega))
  · obtain ⟨F, o2, o3, fs, rfl, sm, hF, hR⟩ := hI
    rw [List.take_of_length_le (by omega)] at hR
    exact ⟨_, rfl, hQ _ _ sm ⟨F, fs, rfl, SqL.of hF, hR⟩⟩
end
end Bc
end
section
set_option Elab.async false
set_option linter.all false
set_option maxRecDepth 100000
set_option maxHeartbeats 4000000
set_option exponentiation.threshold 200000
namespace Bc
open PySem PySem.Spec PyProof.Rows L2
section
variable {P : Program} {w : World} {K : PySem.W.Frag} {mg : Str → Option Value} {base : Heap}
/-- a basis function at a place; of degree at most n -/
def spLBasis (K : PySem.W.Frag) (n : Nat) : Sp := fun vs H Q _ => ∃ (v u : V) (kn : List Rat) (x : Rat) (d i : Nat), vs = [.int (d : Int), v, .int (i : Int), u] ∧ Pol K H v kn ∧ Rt K H u x ∧ Sm x ∧ d ≤ n ∧ n ≤ 4 ∧ i + d + 1 < kn.length ∧ lbOk (tk kn) x d i ∧ WR K H Q (lbas (tk kn) x d i)
theorem spLBasis_len {n : Nat} : ∀ vs H Q E, spLBasis K n vs H Q E → vs.length = 4 := fun vs H Q E h => by obtain ⟨v, u, kn, x, d, i, rfl, _⟩ := h; rfl
theorem ok_lbasis0 (T : Top K mg) : Has P w K mg base 5 "_law_basis" ["_law_degree", "_law_knots", "_law_i", "_law_x"] (spLBasis K 0) := by
  refine mk_has T.d_l_basis sc_l_basis (fun _ _ _ _ _ _ us hl => match us, hl with | [_, _, _, _], _ => rfl) spLBasis_len (fun f cdv A outer s H vs Q E hr h => ?_)
  obtain ⟨v, u, kn, x, d, i, rfl, ⟨ka, xs, rfl, kS, kP⟩, hx, sx, hd, _, hi, ok, hQ⟩ := h
  obtain rfl : d = 0 := by omega
  have hl := Paired.length kP
  refine ⟨_, pss_cons (ps_if (pt_cmpR op_eq (pv 0) pe_int (nomark _)) (pss_one (ps_ret (pe_ifExp (PW.pt (pw_and (pt_not (pt_val (pf (ok_l_below T) (hr.mono (by decide)) (a2 (pv 3) (pe_ix ix_tup (pv 1) (pv 2) (fun _ _ => rfl)))))) (pw_and1 (pt_val (pf (ok_l_below T) (hr.mono (by decide)) (a2 (pv 3) (pe_ix ix_tup (pv 1) (pe_op op_add (pv 2) pe_int) (fun _ _ => rfl)))))))) (pe_tup (a2 pe_int pe_int)) (pe_tup (a2 pe_int pe_int))))) pss_nil) pss_never, ?_⟩
  obtain ⟨s1, s2⟩ := ok
  have i1 : i < kn.length := by omega
  have i2 : i + 1 < kn.length := by omega
  obtain ⟨y1, hy1, r1⟩ := pr_get kP (at_getD i1)
  obtain ⟨y2, hy2, r2⟩ := pr_get kP (at_getD i2)
  have el : lbas (tk kn) x 0 i = if ¬ x < tk kn i ∧ x < tk kn (i + 1) then 1 else 0 := rfl
  have f1 : ∀ p, H p = none → lbas (tk kn) x 0 i = 1 → Q (.ref p) (upd H p (.tup [.int 1, .int 1])) := fun p hp e => hQ _ _ (same_upd hp) (by rw [e]; exact rt_u hp)
  have f0 : ∀ p, H p = none → lbas (tk kn) x 0 i = 0 → Q (.ref p) (upd H p (.tup [.int 0, .int 1])) := fun p hp e => hQ _ _ (same_upd hp) (by rw [e]; exact rt_z hp)
  refine ⟨_, rfl, rfl, true, rfl, iteT ⟨_, rfl, _, rfl, _, rfl, ka, xs, _, y1, rfl, rfl, kS, at_of (j := i) rfl hy1, _, _, x, _, rfl, hx, r1, sx, s1, _, rfl, ?_⟩⟩
  by_cases e1 : x < kn.getD i 0
  · rw [decide_eq_true e1]
    exact iteF (iteF ⟨(by show 2 ≤ sizeLine; decide), fun p hp => f0 p hp (by rw [el, if_neg (fun z => z.1 e1)])⟩)
  · rw [decide_eq_false e1]
    refine iteT ⟨_, rfl, _, rfl, _, rfl, _, _, rfl, rfl, ka, xs, _, y2, rfl, rfl, kS, at_of (j := i + 1) (by omega) hy2, _, _, x, _, rfl, hx, r2, sx, s2, _, rfl, ?_⟩
    by_cases e2 : x < kn.getD (i + 1) 0
    · rw [decide_eq_true e2]
      exact iteT ⟨(by show 2 ≤ sizeLine; decide), fun p hp => f1 p hp (by rw [el, if_pos ⟨e1, e2⟩])⟩
    · rw [decide_eq_false e2]
      exact iteF ⟨(by show 2 ≤ sizeLine; decide), fun p hp => f0 p hp (by rw [el, if_neg (fun z => e2 z.2)])⟩
theorem ok_lbasisS (T : Top K mg) (n k : Nat) (hk4 : 4 ≤ k) (IH : Has P w K mg base k "_law_basis" ["_law_degree", "_law_knots", "_law_i", "_law_x"] (spLBasis K n)) : Has P w K mg base (k + 1) "_law_basis" ["_law_degree", "_law_knots", "_law_i", "_law_x"] (spLBasis K (n + 1)) := by
  refine mk_has T.d_l_basis sc_l_basis (fun _ _ _ _ _ _ us hl => match us, hl with | [_, _, _, _], _ => rfl) spLBasis_len (fun f cdv A outer s H vs Q E hr h => ?_)
  obtain ⟨v, u, kn, x, d, i, rfl, hk, hx, sx, hd, hn4, hi, ok, hQ⟩ := h
  obtain ⟨ka, xs, rfl, kS, kP⟩ := id hk
  have hl := Paired.length kP
  refine ⟨_, pss_cons (ps_if (pt_cmpR op_eq (pv 0) pe_int (nomark _)) (pss_one (ps_ret (pe_ifExp (PW.pt (pw_and (pt_not (pt_val (pf (ok_l_below T) (hr.mono (by omega)) (a2 (pv 3) (pe_ix ix_tup (pv 1) (pv 2) (fun _ _ => rfl)))))) (pw_and1 (pt_val (pf (ok_l_below T) (hr.mono (by omega)) (a2 (pv 3) (pe_ix ix_tup (pv 1) (pe_op op_add (pv 2) pe_int) (fun _ _ => rfl)))))))) (pe_tup (a2 pe_int pe_int)) (pe_tup (a2 pe_int pe_int))))) pss_nil)
    (pss_cons (ps_set (i := 4) sc_l_basis.nd rfl (.inl rfl) (pe_tup (a2 pe_int pe_int)))
    (pss_cons (ps_if (pt_cmpR (op_neD hr.units) (pe_ix ix_tup (pv 1) (pv 2) (fun _ _ => rfl)) (pe_ix ix_tup (pv 1) (pe_op op_add (pv 2) (pv 0)) (fun _ _ => rfl)) (nomark _))
      (pss_cons (ps_set (i := 5) sc_l_basis.nd rfl (.inl rfl) (pf (ok_l_over T) (hr.mono (by omega)) (a2 (pf (ok_l_minus T) (hr.mono (by omega)) (a2 (pv 3) (pe_ix ix_tup (pv 1) (pv 2) (fun _ _ => rfl)))) (pf (ok_l_minus T) (hr.mono (by omega)) (a2 (pe_ix ix_tup (pv 1) (pe_op op_add (pv 2) (pv 0)) (fun _ _ => rfl)) (pe_ix ix_tup (pv 1) (pv 2) (fun _ _ => rfl)))))))
      (pss_one (ps_set (i := 4) sc_l_basis.nd rfl (.inl rfl) (pf (ok_l_times T) (hr.mono (by omega)) (a2 (pv 5) (pf IH hr (pa_cons (pe_op op_sub (pv 0) pe_int) (a3 (pv 1) (pv 2) (pv 3))))))))) pss_nil)
    (pss_cons (ps_if (pt_cmpR (op_neD hr.units) (pe_ix ix_tup (pv 1) (pe_op op_add (pv 2) pe_int) (fun _ _ => rfl)) (pe_ix ix_tup (pv 1) (pe_op op_add (pe_op op_add (pv 2) (pv 0)) pe_int) (fun _ _ => rfl)) (nomark _))
      (pss_cons (ps_set (i := 5) sc_l_basis.nd rfl (.inl rfl) (pf (ok_l_minus T) (hr.mono (by omega)) (a2 (pe_ix ix_tup (pv 1) (pe_op op_add (pe_op op_add (pv 2) (pv 0)) pe_int) (fun _ _ => rfl)) (pe_ix ix_tup (pv 1) (pe_op op_add (pv 2) pe_int) (fun _ _ => rfl)))))
      (pss_cons (ps_set (i := 5) sc_l_basis.nd rfl (.inl rfl) (pf (ok_l_over T) (hr.mono (by omega)) (a2 (pf (ok_l_minus T) (hr.mono (by omega)) (a2 (pe_ix ix_tup (pv 1) (pe_op op_add (pe_op op_add (pv 2) (pv 0)) pe_int) (fun _ _ => rfl)) (pv 3))) (pv 5))))
      (pss_one (ps_set (i := 4) sc_l_basis.nd rfl (.inl rfl) (pf (ok_l_plus T) (hr.mono (by omega)) (a2 (pv 4) (pf (ok_l_times T) (hr.mono (by omega)) (a2 (pv 5) (pf IH hr (pa_cons (pe_op op_sub (pv 0) pe_int) (a3 (pv 1) (pe_op op_add (pv 2) pe_int) (pv 3)))))))))))) pss_nil)
    (pss_one (ps_ret (pv 4)))))), ?_⟩
  by_cases hd0 : d = 0
  · subst hd0
    obtain ⟨s1, s2⟩ := ok
    have i1 : i < kn.length := by omega
    have i2 : i + 1 < kn.length := by omega
    obtain ⟨y1, hy1, r1⟩ := pr_get kP (at_getD i1)
    obtain ⟨y2, hy2, r2⟩ := pr_get kP (at_getD i2)
    have el : lbas (tk kn) x 0 i = if ¬ x < tk kn i ∧ x < tk kn (i + 1) then 1 else 0 := rfl
    have f1 : ∀ p, H p = none → lbas (tk kn) x 0 i = 1 → Q (.ref p) (upd H p (.tup [.int 1, .int 1])) := fun p hp e => hQ _ _ (same_upd hp) (by rw [e]; exact rt_u hp)
    have f0 : ∀ p, H p = none → lbas (tk kn) x 0 i = 0 → Q (.ref p) (upd H p (.tup [.int 0, .int 1])) := fun p hp e => hQ _ _ (same_upd hp) (by rw [e]; exact rt_z hp)
    refine ⟨_, rfl, rfl, true, rfl, iteT ⟨_, rfl, _, rfl, _, rfl, ka, xs, _, y1, rfl, rfl, kS, at_of (j := i) rfl hy1, _, _, x, _, rfl, hx, r1, sx, s1, _, rfl, ?_⟩⟩
    by_cases e1 : x < kn.getD i 0
    · rw [decide_eq_true e1]
      exact iteF (iteF ⟨(by show 2 ≤ sizeLine; decide), fun p hp => f0 p hp (by rw [el, if_neg (fun z => z.1 e1)])⟩)
    · rw [decide_eq_false e1]
      refine iteT ⟨_, rfl, _, rfl, _, rfl, _, _, rfl, rfl, ka, xs, _, y2, rfl, rfl, kS, at_of (j := i + 1) (by omega) hy2, _, _, x, _, rfl, hx, r2, sx, s2, _, rfl, ?_⟩
      by_cases e2 : x < kn.getD (i + 1) 0
      · rw [decide_eq_true e2]
        exact iteT ⟨(by show 2 ≤ sizeLine; decide), fun p hp => f1 p hp (by rw [el, if_pos ⟨e1, e2⟩])⟩
      · rw [decide_eq_false e2]
        exact iteF ⟨(by show 2 ≤ sizeLine; decide), fun p hp => f0 p hp (by rw [el, if_neg (fun z => e2 z.2)])⟩
  · obtain ⟨e, rfl⟩ : ∃ e, d = e + 1 := ⟨d - 1, by omega⟩
    obtain ⟨ok1, ok2⟩ := ok
    have ne0 : decide (V.int ((e + 1 : Nat) : Int) = V.int 0) = false := decide_eq_false (by intro z; have := V.int.inj z; omega)
    refine ⟨_, rfl, rfl, _, rfl, ?_⟩
    rw [ne0]
    refine iteF ⟨(by show 2 ≤ sizeLine; decide), fun p0 hp0 => ?_⟩
    have s0 := same_upd (o := .tup [.int 0, .int 1]) hp0
    have hF0 : Rt K (upd H p0 (.tup [.int 0, .int 1])) (.ref p0) 0 := rt_z hp0
    generalize upd H p0 (.tup [.int 0, .int 1]) = H0 at s0 hF0 ⊢
    have i0 : i < kn.length := by omega
    have i1 : i + (e + 1) < kn.length := by omega
    have i2 : i + 1 < kn.length := by omega
    have i3 : i + (e + 1) + 1 < kn.length := by omega
    obtain ⟨y0, hy0, r0⟩ := pr_get kP (at_getD i0)
    obtain ⟨y1, hy1, r1⟩ := pr_get kP (at_getD i1)
    obtain ⟨y2, hy2, r2⟩ := pr_get kP (at_getD i2)
    obtain ⟨y3, hy3, r3⟩ := pr_get kP (at_getD i3)
    have i6 : i + (e + 1) = i + e + 1 := by omega
    have i5 : i + (e + 1) + 1 = i + e + 2 := by omega
    have eb : lbas (tk kn) x (e + 1) i = if tk kn (i + 1) = tk kn (i + e + 2) then (if tk kn i = tk kn (i + e + 1) then 0 else (x - tk kn i) / (tk kn (i + e + 1) - tk kn i) * lbas (tk kn) x e i)
      else (if tk kn i = tk kn (i + e + 1) then 0 else (x - tk kn i) / (tk kn (i + e + 1) - tk kn i) * lbas (tk kn) x e i) + (tk kn (i + e + 2) - x) / (tk kn (i + e + 2) - tk kn (i + 1)) * lbas (tk kn) x e (i + 1) := rfl
    -- what stands behind the first part
    have second : ∀ (F : V) (o5 : Option V) (H1 : Hp), Same H H1 → Rt K H1 F (if tk kn i = tk kn (i + e + 1) then 0 else (x - tk kn i) / (tk kn (i + e + 1) - tk kn i) * lbas (tk kn) x e i) → _ := fun F o5 H1 s1 hF => by
      exact (show (tSeq (tIfS (tTest (tOp (rNeD K) (tOp (rIxT K) (tVar 1) (tOp (rI0 fun i j => .int (i + j)) (tVar 2) (tC (.int 1)))) (tOp (rIxT K) (tVar 1) (tOp (rI0 fun i j => .int (i + j)) (tOp (rI0 fun i j => .int (i + j)) (tVar 2) (tVar 0)) (tC (.int 1))))))
          (tSeq (tAsg (tCall (sp2 K fun a b => a - b) [] E0 (tCons (tOp (rIxT K) (tVar 1) (tOp (rI0 fun i j => .int (i + j)) (tOp (rI0 fun i j => .int (i + j)) (tVar 2) (tVar 0)) (tC (.int 1)))) (tCons (tOp (rIxT K) (tVar 1) (tOp (rI0 fun i j => .int (i + j)) (tVar 2) (tC (.int 1)))) tNil))) (gName 5))
          (tSeq (tAsg (tCall (spOver K) [] E0 (tCons (tCall (sp2 K fun a b => a - b) [] E0 (tCons (tOp (rIxT K) (tVar 1) (tOp (rI0 fun i j => .int (i + j)) (tOp (rI0 fun i j => .int (i + j)) (tVar 2) (tVar 0)) (tC (.int 1)))) (tCons (tVar 3) tNil))) (tCons (tVar 5) tNil))) (gName 5))
            (tAsg (tCall (sp2 K fun a b => a + b) [] E0 (tCons (tVar 4) (tCons (tCall (sp2 K fun a b => a * b) [] E0 (tCons (tVar 5) (tCons (tCall (spLBasis K n) [] E0 (tCons (tOp (rI0 fun i j => .int (i - j)) (tVar 0) (tC (.int 1))) (tCons (tVar 1) (tCons (tOp (rI0 fun i j => .int (i + j)) (tVar 2) (tC (.int 1))) (tCons (tVar 3) tNil))))) tNil))) tNil))) (gName 4)))) tNext)
        (tRet (tVar 4)))
        { nx := fun _ H' => Q .non H', rt := Q } [some (.int ((e + 1 : Nat) : Int)), some (.ref ka), some (.int (i : Int)), some u, some F, o5] H1 from by
        have kS1 := seqT_keep s1 kS
        refine ⟨_, rfl, _, rfl, _, _, rfl, rfl, ka, xs, _, y2, rfl, rfl, kS1, at_of (j := i + 1) (by omega) hy2, _, rfl, _, rfl, _, rfl, _, _, rfl, rfl, _, _, rfl, rfl, ka, xs, _, y3, rfl, rfl, kS1, at_of (j := i + (e + 1) + 1) (by omega) hy3, _, _, rD_dp (r2.keep s1), rD_dp (r3.keep s1), rD_shaped _, rD_shaped _, _, rfl, ?_⟩
        rw [rD_eqv]
        rw [i5] at r3 ⊢
        by_cases ee : tk kn (i + 1) = tk kn (i + e + 2)
        · rw [decide_eq_true (show kn.getD (i + 1) 0 = kn.getD (i + e + 2) 0 from ee)]
          rw [eb, if_pos ee] at hQ
          exact iteF ⟨_, rfl, hQ _ _ s1 hF⟩
        · rw [decide_eq_false (show ¬ kn.getD (i + 1) 0 = kn.getD (i + e + 2) 0 from ee)]
          rw [eb, if_neg ee] at hQ
          obtain ⟨sa, sb, qu, okb, sl, sf, sp⟩ := ok2 ee
          refine iteT ⟨_, rfl, _, rfl, _, rfl, _, _, rfl, rfl, _, _, rfl, rfl, ka, xs, _, y3, rfl, rfl, kS1, at_of (j := i + (e + 1) + 1) (by omega) hy3, _, rfl, _, rfl, _, _, rfl, rfl, ka, xs, _, y2, rfl, rfl, kS1, at_of (j := i + 1) (by omega) hy2, _, _, _, _, rfl, r3.keep s1, r2.keep s1, sb, sa, fun H2 v2 e2 q2 => ?_⟩
          have s2 := s1.trans e2
          refine ⟨_, rfl, _, rfl, _, rfl, _, _, rfl, rfl, _, _, rfl, rfl, ka, xs, _, y3, rfl, rfl, seqT_keep s2 kS, at_of (j := i + (e + 1) + 1) (by omega) hy3, _, rfl, _, _, _, x, rfl, r3.keep s2, hx.keep s2, sb, sx, fun H3 v3 e3 q3 => ?_⟩
          refine ⟨_, rfl, _, _, _, _, rfl, q3, q2.keep e3, qu.sa, qu.sb, qu.pos, qu.nd, fun H4 v4 e4 q4 => ?_⟩
          have s4 := (s2.trans e3).trans e4
          refine ⟨_, rfl, _, rfl, _, rfl, _, _, rfl, rfl, _, rfl, _, rfl, _, _, rfl, rfl, _, rfl, .ref ka, u, kn, x, e, i + 1, ?_, hk.keep s4, hx.keep s4, sx, by omega, by omega, by omega, okb, fun H5 v5 e5 q5 => ?_⟩
          · show [V.int (((e + 1 : Nat) : Int) - 1), .ref ka, .int ((i : Int) + 1), u] = _
            rw [show ((e + 1 : Nat) : Int) - 1 = (e : Int) by omega]; rfl
          refine ⟨_, _, _, _, rfl, q4.keep e5, q5, qu.sq, sl, fun H6 v6 e6 q6 => ?_⟩
          refine ⟨_, _, _, _, rfl, hF.keep ((((e2.trans e3).trans e4).trans e5).trans e6), q6, sf, sp, fun H7 v7 e7 q7 => ?_⟩
          exact ⟨_, rfl, hQ _ _ (((s4.trans e5).trans e6).trans e7) q7⟩)
    have kS0 := seqT_keep s0 kS
    refine ⟨_, rfl, _, rfl, ka, xs, _, y0, rfl, rfl, kS0, at_of (j := i) rfl hy0, _, rfl, _, rfl, _, rfl, _, _, rfl, rfl, ka, xs, _, y1, rfl, rfl, kS0, at_of (j := i + (e + 1)) (by omega) hy1, _, _, rD_dp (r0.keep s0), rD_dp (r1.keep s0), rD_shaped _, rD_shaped _, _, rfl, ?_⟩
    rw [rD_eqv]
    rw [i6] at r1 ⊢
    by_cases ee : tk kn i = tk kn (i + e + 1)
    · rw [decide_eq_true (show kn.getD i 0 = kn.getD (i + e + 1) 0 from ee)]
      refine iteF (second (.ref p0) _ H0 s0 ?_)
      rw [if_pos ee]; exact hF0
    · rw [decide_eq_false (show ¬ kn.getD i 0 = kn.getD (i + e + 1) 0 from ee)]
      obtain ⟨sa, sb, qu, okb, sl⟩ := ok1 ee
      refine iteT ⟨_, rfl, _, rfl, _, rfl, ka, xs, _, y0, rfl, rfl, kS0, at_of (j := i) rfl hy0, _, _, x, _, rfl, hx.keep s0, r0.keep s0, sx, sa, fun H2 v2 e2 q2 => ?_⟩
      have s2 := s0.trans e2
      refine ⟨_, rfl, _, rfl, _, rfl, _, _, rfl, rfl, ka, xs, _, y1, rfl, rfl, seqT_keep s2 kS, at_of (j := i + (e + 1)) (by omega) hy1, _, rfl, _, rfl, ka, xs, _, y0, rfl, rfl, seqT_keep s2 kS, at_of (j := i) rfl hy0, _, _, _, _, rfl, r1.keep s2, r0.keep s2, sb, sa, fun H3 v3 e3 q3 => ?_⟩
      refine ⟨_, _, _, _, rfl, q2.keep e3, q3, qu.sa, qu.sb, qu.pos, qu.nd, fun H4 v4 e4 q4 => ?_⟩
      have s4 := (s2.trans e3).trans e4
      refine ⟨_, rfl, _, rfl, _, _, rfl, rfl, _, rfl, _, rfl, _, rfl, .ref ka, u, kn, x, e, i, ?_, hk.keep s4, hx.keep s4, sx, by omega, by omega, by omega, okb, fun H5 v5 e5 q5 => ?_⟩
      · show [V.int (((e + 1 : Nat) : Int) - 1), .ref ka, .int (i : Int), u] = _
        rw [show ((e + 1 : Nat) : Int) - 1 = (e : Int) by omega]
      refine ⟨_, _, _, _, rfl, q4.keep e5, q5, qu.sq, sl, fun H6 v6 e6 q6 => ?_⟩
      refine second _ _ H6 ((s4.trans e5).trans e6) ?_
      rw [if_neg ee]; exact q6
theorem ok_lbasis4 (T : Top K mg) : Has P w K mg base 9 "_law_basis" ["_law_degree", "_law_knots", "_law_i", "_law_x"] (spLBasis K 4) :=
  ok_lbasisS T 3 8 (by omega) (ok_lbasisS T 2 7 (by omega) (ok_lbasisS T 1 6 (by omega) (ok_lbasisS T 0 5 (by omega) (ok_lbasis0 T))))
structure ValOk (t c : Nat → Rat) (d : Nat) (x : Rat) (n : Nat) : Prop where
  lb : ∀ i, i < n → lbOk t x d i ∧ Sm (lbas t x d i) ∧ Sm (c i)
  su : lsumOk 0 (terms t c d x n)
def spLAt (K : PySem.W.Frag) : Sp := fun vs H Q _ => ∃ v u d kn c x, vs = [v, u] ∧ SplV K H v d kn c ∧ d ≤ 4 ∧ kn.length ≤ 900 ∧ c.length + d + 1 = kn.length ∧ Rt K H u x ∧ Sm x ∧ x ≠ kn.getD (kn.length - 1) 0 ∧ ValOk (tk kn) (tk c) d x c.length ∧ WR K H Q (lval (tk kn) (tk c) d x c.length)
theorem terms_at {t c : Nat → Rat} {d n i : Nat} {x : Rat} (h : i < n) : (terms t c d x n)[i]? = some (c i * lbas t x d i) := by
  unfold terms
  rw [List.getElem?_map, List.getElem?_range h]; rfl
theorem terms_len (t c : Nat → Rat) (d n : Nat) (x : Rat) : (terms t c d x n).length = n := by unfold terms; rw [List.length_map, List.length_range]
theorem ok_l_spline_at (T : Top K mg) : Has P w K mg base 10 "_law_spline_at" ["_law_spline_here", "_law_x"] (spLAt K) := by
  refine mk_has T.d_l_spline_at sc_l_spline_at (fun _ _ _ _ _ _ us hl => match us, hl with | [_, _], _ => rfl) (fun vs H Q E h => by obtain ⟨v, u, d, kn, c, x, rfl, _⟩ := h; rfl) (fun f cdv A outer s H vs Q E hr h => ?_)
  obtain ⟨v, u, d, kn, c, x, rfl, ⟨a, kv, rw', rfl, hS, hk, hc⟩, d4, l2, l3, hx, sx, hne, ok, hQ⟩ := h
  obtain ⟨ka, kx, rfl, kS, kP⟩ := id hk
  obtain ⟨ra, rx, rfl, rS, rP⟩ := id hc
  have hkl := Paired.length kP
  have hrl := Paired.length rP
  have hlt1 : kn.length - 1 < kn.length := by omega
  obtain ⟨y9, hy9, r9⟩ := pr_get kP (at_getD hlt1)
  refine ⟨_, pss_cons (ps_asg (pv 0) (pg_tup rfl (pgs_cons (pg_name (i := 2) sc_l_spline_at.nd rfl (.inr rfl)) (pgs_cons (pg_name (i := 3) sc_l_spline_at.nd rfl (.inr rfl)) (pgs_cons (pg_name (i := 4) sc_l_spline_at.nd rfl (.inr rfl)) pgs_nil)))))
    (pss_cons (ps_if (pt_cmpR (op_eqD hr.units) (pv 1) (pe_ix ix_tup (pv 3) (pe_un un_neg pe_int) (fun _ _ => rfl)) (nomark _)) (pss_one ps_never) pss_nil)
    (pss_one (ps_ret (pf (ok_l_sum T) (hr.mono (by decide)) (a1 (pe_lc (own := [("_law_i", 5)]) (g := gName 5) (te := tCall (sp2 K fun a b => a * b) [] E0 (tCons (tOp (rIxT K) (tVar 4) (tVar 5)) (tCons (tCall (spLBasis K 4) [] E0 (tCons (tVar 2) (tCons (tVar 3) (tCons (tVar 5) (tCons (tVar 1) tNil))))) tNil))) rfl sc_l_spline_at.nd (pi_range1 (by rfl) T.b_range (a1 (pe_callB call_len_seq (by rfl) T.b_len PySem.boot_len (a1 (pv 4)))))
      (blkOk_by (own := [("_law_i", 5)]) (N := n_l_spline_at) (sc := defScope s_l_spline_at) (by decide +kernel))
      (fun _ _ _ _ _ => pg_name (i := 5) sc_l_spline_at.nd rfl (Or.inl rfl)) (fun _ _ _ _ _ => pts_nil)
      (fun _ _ _ _ _ => pf (ok_l_times T) (hr.mono (by decide)) (a2 (pe_ix ix_tup (pv 4) (pv 5) (fun _ _ => rfl)) (pf (ok_lbasis4 T) hr (pa_cons (pv 2) (a3 (pv 3) (pv 5) (pv 1)))))))))))), ?_⟩
  refine ⟨_, rfl, a, _, rfl, hS, rfl, _, _, rfl, _, _, rfl, _, _, rfl, rfl, ?_⟩
  refine ⟨_, rfl, _, rfl, _, rfl, ka, kx, _, y9, rfl, rfl, kS, atI_neg (j := 1) (by omega) (by omega) rfl (by rw [hkl]; exact hy9), _, _, rD_dp hx, rD_dp r9, rD_shaped _, rD_shaped _, _, rfl, ?_⟩
  rw [rD_eqv, decide_eq_false hne]
  refine iteF ⟨_, rfl, ra, rx, rfl, .inr rS, _, rfl, by omega, by omega, fun D hD => ?_⟩
  refine lc_range (n := ((rx.length : Int)).toNat) (fun i H1 => Same H H1 ∧ ∃ acc, H1 D = some (.lst acc) ∧ RtL K H1 acc ((terms (tk kn) (tk c) d x c.length).take i)) ⟨same_upd hD, [], upd_same, .nil⟩ (fun i H1 hi hI => ?_) (fun H1 hI => ?_)
  · obtain ⟨sm, acc, hA, hR⟩ := hI
    have i1 : i < c.length := by omega
    obtain ⟨y, hy, ry⟩ := pr_get (rtl_keep rP sm) (at_getD i1)
    obtain ⟨b1, b2, b3⟩ := ok.lb i i1
    have hla := Paired.length hR
    rw [List.length_take, terms_len] at hla
    refine ⟨rfl, _, rfl, _, rfl, ra, rx, _, y, rfl, rfl, seqT_keep sm rS, at_of (j := i) (by omega) hy, _, rfl, _, rfl, _, rfl, _, rfl, .ref ka, u, kn, x, d, i, ?_, hk.keep sm, hx.keep sm, sx, d4, by omega, by omega, b1, fun H2 v2 e2 q2 => ?_⟩
    · show [V.int (d : Int), .ref ka, .int (0 + (i : Int)), u] = _
      rw [Int.zero_add]
    · refine ⟨_, _, _, _, rfl, ry.keep e2, q2, b3, b2, fun H3 v3 e3 q3 => ?_⟩
      have hA2 := (e2.trans e3) _ _ hA
      refine ⟨acc, hA2, sz1 (by omega), same_new (sm.trans (e2.trans e3)) hD, _, upd_same, ?_⟩
      rw [take_next (terms_at i1)]
      exact pr_append (rtl_upd hA2 (rtl_keep hR (e2.trans e3))) (.cons (rt_upd hA2 q3) .nil)
  · obtain ⟨sm, acc, hA, hR⟩ := hI
    rw [List.take_of_length_le (by rw [terms_len]; omega)] at hR
    exact ⟨_, _, rfl, ⟨D, acc, rfl, SqL.of hA, hR⟩, ok.su, fun H2 v2 e2 q2 => hQ _ _ (sm.trans e2) q2⟩
end
end Bc
end
section
set_option Elab.async false
set_option linter.all false
set_option maxRecDepth 100000
set_option maxHeartbeats 4000000
set_option exponentiation.threshold 200000
namespace Bc
open PySem PySem.Spec PyProof.Rows L2
/-- all that is tracked stays, but at r -/
def SameR (r : Addr) (H H' : Hp) : Prop := ∀ b x, b ≠ r → H b = some x → H' b = some x
section
variable {K : PySem.W.Frag} {H H' H2 : Hp} {r : Addr} {v : V} {q : Rat} {vs : List V} {p : List Rat}
/-- a list stands at r -/
def LstAt (H : Hp) (r : Addr) : Prop := ∃ l, H r = some (.lst l)
theorem SameR.refl (r : Addr) (H : Hp) : SameR r H H := fun _ _ _ h => h
theorem SameR.trans (h : SameR r H H') (h2 : SameR r H' H2) : SameR r H H2 := fun b x n e => h2 b x n (h b x n e)
theorem Same.toR (h : Same H H') : SameR r H H' := fun b x _ e => h b x e
theorem SameR.upd {l : HO} : SameR r H (upd H r l) := fun b x n e => by rw [upd_ne n]; exact e
theorem SameR.new {D : Addr} {o : HO} (h : SameR r H H') (hD : H D = none) : SameR r H (L2.upd H' D o) := fun b x n e => by
  rw [upd_ne (ne_of_none e hD)]
  exact h b x n e
theorem SameR.nl (hl : LstAt H r) (e : SameR r H H') {b : Addr} {x : HO} (h : H b = some x) (hx : ∀ l, x ≠ .lst l) : H' b = some x := by
  refine e b x ?_ h
  rintro rfl
  obtain ⟨l, h2⟩ := hl
  rw [h2] at h
  exact hx l (Option.some.inj h).symm
theorem seqT_keepR {a : Addr} {xs : List V} (hl : LstAt H r) (e : SameR r H H') (h : SqT K H a xs) : SqT K H' a xs := by
  rcases h with (h | ⟨o, h⟩) | h
  · exact .inl (.inl (e.nl hl h (by intro l z; cases z)))
  · exact .inl (.inr ⟨o, e.nl hl h (by intro l z; cases z)⟩)
  · exact .inr h
theorem seqL_keepR {a : Addr} {xs : List V} (hn : a ≠ r) (e : SameR r H H') (h : SqL K H a xs) : SqL K H' a xs := by
  rcases h with (h | ⟨o, h⟩) | h
  · exact .inl (.inl (e _ _ hn h))
  · exact .inl (.inr ⟨o, e _ _ hn h⟩)
  · exact .inr h
theorem Rt.keepR (h : Rt K H v q) (hl : LstAt H r) (e : SameR r H H') : Rt K H' v q := let ⟨a, e1, h1⟩ := h; ⟨a, e1, seqT_keepR hl e h1⟩
theorem rtl_keepR (h : RtL K H vs p) (hl : LstAt H r) (e : SameR r H H') : RtL K H' vs p := Paired.mapP h fun _ _ x => x.keepR hl e
theorem Pol.keepR (h : Pol K H v p) (hl : LstAt H r) (e : SameR r H H') : Pol K H' v p := let ⟨a, vs, e1, h1, h2⟩ := h; ⟨a, vs, e1, seqT_keepR hl e h1, rtl_keepR h2 hl e⟩
theorem Kn.keepR (h : Kn K H v p) (hl : LstAt H r) (e : SameR r H H') : Kn K H' v p := let ⟨a, o, xs, e1, h1, h2, h3⟩ := h; ⟨a, o, xs, e1, e.nl hl h1 (by intro l z; cases z), h2, rtl_keepR h3 hl e⟩
theorem SplF.keepR {d : Nat} {kn c : List Rat} (h : SplF K H v d kn c) (hl : LstAt H r) (e : SameR r H H') : SplF K H' v d kn c :=
  let ⟨a, kv, rw, e1, h1, h2, h3⟩ := h; ⟨a, kv, rw, e1, seqT_keepR hl e h1, h2.keepR hl e, h3.keepR hl e⟩
theorem frz_keepR {sc : Addr} {o : Obj} {u : HO} (hl : LstAt H r) (e : SameR r H H') (h : H sc = some (.frz o u)) : H' sc = some (.frz o u) := e.nl hl h (by intro l z; cases z)
theorem frz_sql {sc : Addr} {o : Obj} {xs : List V} (h : H sc = some (.frz o (.lst xs))) : SqL K H sc xs := .inl (.inr ⟨o, h⟩)
/-- the script: it is read alone -/
def Scr (K : PySem.W.Frag) (H : Hp) (sc : Addr) (ns : List Int) : Prop := (∃ o, H sc = some (.frz o (.lst (ns.map V.int)))) ∨
  ∃ (o : Obj) (its : Array Value) (n : Nat), K.lookup sc = some o ∧ o.cls = .type "list" ∧ o.dict = none ∧ o.data = .seq its n ∧ its.size ≤ sizeLine ∧ Vals (ns.map V.int) its.toList
theorem Scr.sql {sc : Addr} {ns : List Int} (h : Scr K H sc ns) : SqL K H sc (ns.map V.int) := h.elim (fun h => .inl (.inr h)) .inr
theorem Scr.keepR {sc : Addr} {ns : List Int} (h : Scr K H sc ns) (hl : LstAt H r) (e : SameR r H H') : Scr K H' sc ns := h.elim (fun ⟨o, h⟩ => .inl ⟨o, frz_keepR hl e h⟩) .inr
theorem Scr.keep {sc : Addr} {ns : List Int} (h : Scr K H sc ns) (e : Same H H') : Scr K H' sc ns := h.elim (fun ⟨o, h⟩ => .inl ⟨o, e _ _ h⟩) .inr
theorem Scr.upd {sc D : Addr} {ns : List Int} {xs ys : List V} (h : Scr K H sc ns) (hD : H D = some (.lst xs)) : Scr K (L2.upd H D (.lst ys)) sc ns := h.elim (fun ⟨o, h5⟩ => .inl ⟨o, by
  have : sc ≠ D := by rintro rfl; rw [h5] at hD; cases hD
  rw [upd_ne this]; exact h5⟩) .inr
/-- the row that the law's draws read and write -/
def Row (K : PySem.W.Frag) (H : Hp) (r : Addr) : Prop := ∃ (sc : Addr) (ns : List Int) (a b c : Int), H r = some (.lst [.ref sc, .int a, .int b, .int c]) ∧ 0 ≤ a ∧ 0 ≤ b ∧ b < 2147483647 ∧ Scr K H sc ns
theorem Row.at (h : Row K H r) : LstAt H r := let ⟨_, _, _, _, _, h, _⟩ := h; ⟨_, h⟩
theorem Row.keep (h : Row K H r) (e : Same H H') : Row K H' r := let ⟨sc, ns, a, b, c, h1, h2, h3, h4, h5⟩ := h; ⟨sc, ns, a, b, c, e _ _ h1, h2, h3, h4, h5.keep e⟩
theorem row_upd {D : Addr} {xs ys : List V} (h : Row K H r) (hD : H D = some (.lst xs)) (hn : D ≠ r) : Row K (upd H D (.lst ys)) r := by
  obtain ⟨sc, ns, a, b, c, h1, h2, h3, h4, h5⟩ := h
  exact ⟨sc, ns, a, b, c, by rw [upd_ne (Ne.symm hn)]; exact h1, h2, h3, h4, h5.upd hD⟩
/-- what is wanted of a draw -/
def WD (K : PySem.W.Frag) (H : Hp) (r : Addr) (m : Nat) (Q : VK) : Prop := ∀ H' (z : Nat), SameR r H H' → Row K H' r → z < m → Q (.int (z : Int)) H'
end
section
variable {P : Program} {w : World} {K : PySem.W.Frag} {mg : Str → Option Value} {base : Heap}
def spTaken (K : PySem.W.Frag) : Sp := fun vs H Q _ => ∃ (r : Addr) (m : Nat), vs = [.ref r, .int (m : Int)] ∧ 0 < m ∧ m < 1000000 ∧ Row K H r ∧ WD K H r m Q
theorem ok_l_taken (T : Top K mg) : Has P w K mg base 1 "_law_taken" ["_law_row", "_law_many"] (spTaken K) := by
  refine mk_has T.d_l_taken sc_l_taken (fun _ _ _ _ _ _ us hl => match us, hl with | [_, _], _ => rfl) (fun vs H Q E h => by obtain ⟨r, m, rfl, _⟩ := h; rfl) (fun f cdv A outer s H vs Q E hr h => ?_)
  obtain ⟨r, m, rfl, hm, hm2, ⟨sc, ns, a, b, c, hH, ha, hb, hb2, hS⟩, hQ⟩ := h
  refine ⟨_, pss_cons (ps_if (pt_cmpR op_gt (pe_ix ix_list (pv 0) pe_int (fun _ _ => rfl)) pe_int (nomark _))
      (pss_cons (ps_set (i := 2) sc_l_taken.nd rfl (.inl rfl) (pe_op op_mod (pe_callTy call_int1 (by rfl) T.b_int (by decide +kernel) (a1 (pe_ix ix_list (pv 0) pe_int (fun _ _ => rfl)))) (pv 1)))
      (pss_cons (ps_asg (pe_op op_fdivN (pe_ix ix_list (pv 0) pe_int (fun _ _ => rfl)) (pv 1)) (pg_sub (pv 0) pe_int set_list))
      (pss_one (ps_ret (pv 2))))) pss_nil)
    (pss_cons (ps_asg (pe_op op_add (pe_ix ix_list (pv 0) pe_int (fun _ _ => rfl)) pe_int) (pg_sub (pv 0) pe_int set_list))
    (pss_cons (ps_if (pt_cmpR op_gt (pe_ix ix_list (pv 0) pe_int (fun _ _ => rfl)) (pe_callB call_len_seq (by rfl) T.b_len PySem.boot_len (a1 (pe_ix ix_list (pv 0) pe_int (fun _ _ => rfl)))) (nomark _))
      (pss_cons (ps_asg (pe_op op_mod (pe_callTy call_int1 (by rfl) T.b_int (by decide +kernel) (a1 (pe_op op_add (pe_op op_mul (pe_ix ix_list (pv 0) pe_int (fun _ _ => rfl)) pe_int) pe_int))) pe_int) (pg_sub (pv 0) pe_int set_list))
      (pss_one (ps_ret (pe_op op_mod (pe_callTy call_int1 (by rfl) T.b_int (by decide +kernel) (a1 (pe_op op_fdivN (pe_ix ix_list (pv 0) pe_int (fun _ _ => rfl)) pe_int))) (pv 1))))) pss_nil)
    (pss_cons (ps_set (i := 3) sc_l_taken.nd rfl (.inl rfl) (pe_ix ix_list (pe_ix ix_list (pv 0) pe_int (fun _ _ => rfl)) (pe_op op_sub (pe_ix ix_list (pv 0) pe_int (fun _ _ => rfl)) pe_int) (fun _ _ => rfl)))
    (pss_cons (ps_asg (pe_op op_mod (pe_callTy call_int1 (by rfl) T.b_int (by decide +kernel) (a1 (pe_op op_add (pe_op op_add (pe_op op_mul (pe_ix ix_list (pv 0) pe_int (fun _ _ => rfl)) pe_int) (pv 3)) pe_int))) pe_int) (pg_sub (pv 0) pe_int set_list))
    (pss_cons (ps_if (pt_cmpR op_ge (pv 3) (pe_op op_pow pe_int pe_int) (nomark _)) (pss_one (ps_asg (pe_op op_fdivN (pv 3) (pv 1)) (pg_sub (pv 0) pe_int set_list))) pss_nil)
    (pss_one (ps_ret (pe_op op_mod (pe_callTy call_int1 (by rfl) T.b_int (by decide +kernel) (a1 (pv 3))) (pv 1))))))))), ?_⟩
  have fit : ∀ z : Int, ∃ k : Nat, z % (m : Int) = (k : Int) ∧ k < m := fun z => by
    have h1 := Int.emod_nonneg z (b := (m : Int)) (by omega)
    have h2 := Int.emod_lt_of_pos z (b := (m : Int)) (by omega)
    exact ⟨(z % (m : Int)).toNat, by omega, by omega⟩
  have rw' : ∀ (H1 : Hp) (x : Int) (y z : Int), SameR r H H1 → H1 r = some (.lst [.ref sc, .int x, .int y, .int z]) → 0 ≤ x → 0 ≤ y → y < 2147483647 → Row K H1 r := fun H1 x y z e h h1 h2 h3 => ⟨sc, ns, x, y, z, h, h1, h2, h3, hS.keepR ⟨_, hH⟩ e⟩
  refine ⟨.ref r, rfl, r, _, 3, .int c, rfl, rfl, SqL.of hH, rfl, _, _, rfl, rfl, _, rfl, ite2 (fun e => ?_) (fun e => ?_)⟩
  · obtain ⟨k, hk, hkm⟩ := fit c
    refine ⟨.ref r, rfl, r, _, 3, .int c, rfl, rfl, SqL.of hH, rfl, .inl ⟨c, rfl, _, rfl, _, _, rfl, rfl, by omega, ?_⟩⟩
    refine ⟨.ref r, rfl, r, _, 3, .int c, rfl, rfl, SqL.of hH, rfl, _, rfl, _, _, rfl, rfl, ⟨by omega, by omega⟩, .ref r, rfl, r, _, 3, 3, rfl, rfl, hH, rfl, ?_⟩
    refine ⟨_, rfl, ?_⟩
    show Q (.int (c % (m : Int))) _
    rw [hk]
    exact hQ _ _ .upd (rw' _ _ _ _ .upd upd_same ha hb hb2) hkm
  · refine ⟨.ref r, rfl, r, _, 1, .int a, rfl, rfl, SqL.of hH, rfl, _, _, rfl, rfl, .ref r, rfl, r, _, 1, 1, rfl, rfl, hH, rfl, ?_⟩
    have e1 : SameR r H (upd H r (.lst [.ref sc, .int (a + 1), .int b, .int c])) := .upd
    have h1 : (upd H r (.lst [.ref sc, .int (a + 1), .int b, .int c])) r = some (.lst [.ref sc, .int (a + 1), .int b, .int c]) := upd_same
    generalize hG : upd H r (.lst [.ref sc, .int (a + 1), .int b, .int c]) = H1 at e1 h1
    refine ⟨.ref r, rfl, r, _, 1, .int (a + 1), rfl, rfl, SqL.of (show (upd H r (.lst [.ref sc, .int (a + 1), .int b, .int c])) r = _ from upd_same), rfl, .ref r, rfl, r, _, 0, .ref sc, rfl, rfl, SqL.of (show (upd H r (.lst [.ref sc, .int (a + 1), .int b, .int c])) r = _ from upd_same), rfl, sc, _, rfl, .inl (hS.keepR ⟨_, hH⟩ .upd).sql, _, _, rfl, rfl, _, rfl, ite2 (fun e2 => ?_) (fun e2 => ?_)⟩
    · refine ⟨.ref r, rfl, r, _, 2, .int b, rfl, rfl, SqL.of (show (upd H r (.lst [.ref sc, .int (a + 1), .int b, .int c])) r = _ from upd_same), rfl, _, _, rfl, rfl, .inr ⟨by decide, by decide⟩, _, _, rfl, rfl, .inl ⟨_, rfl, _, _, rfl, rfl, (show (0 : Int) < 2147483647 by decide), .ref r, rfl, r, _, 2, 2, rfl, rfl, (show (upd H r (.lst [.ref sc, .int (a + 1), .int b, .int c])) r = _ from upd_same), rfl, ?_⟩⟩
      have hb3 := Int.emod_nonneg (b * 48271 + 11) (b := 2147483647) (by omega)
      have hb4 := Int.emod_lt_of_pos (b * 48271 + 11) (b := 2147483647) (by omega)
      refine ⟨.ref r, rfl, r, _, 2, .int ((b * 48271 + 11) % 2147483647), rfl, rfl, SqL.of (show (upd _ r (.lst [.ref sc, .int (a + 1), .int ((b * 48271 + 11) % 2147483647), .int c])) r = _ from upd_same), rfl, _, _, rfl, rfl, ⟨by decide, by decide⟩, .inl ⟨_, rfl, _, rfl, _, _, rfl, rfl, by omega, ?_⟩⟩
      obtain ⟨k, hk, hkm⟩ := fit (Int.fdiv ((b * 48271 + 11) % 2147483647) 7)
      show Q (.int (Int.fdiv ((b * 48271 + 11) % 2147483647) 7 % (m : Int))) _
      rw [hk]
      exact hQ _ _ (SameR.upd.trans .upd) (rw' _ _ _ _ (SameR.upd.trans .upd) upd_same (by omega) hb3 hb4) hkm
    · have hlen : (a + 1 : Int) ≤ (ns.length : Int) := by
        have : ¬ (((ns.map V.int).length : Int) < a + 1) := fun z => e2 (decide_eq_true z)
        rw [List.length_map] at this; omega
      have ia : a.toNat < ns.length := by omega
      obtain ⟨cell, hcell⟩ : ∃ y, ns[a.toNat]? = some y := ⟨_, List.getElem?_eq_getElem ia⟩
      have hc2 : (ns.map V.int)[a.toNat]? = some (.int cell) := by rw [List.getElem?_map, hcell]; rfl
      refine ⟨.ref r, rfl, r, _, 0, .ref sc, rfl, rfl, SqL.of (show (upd H r (.lst [.ref sc, .int (a + 1), .int b, .int c])) r = _ from upd_same), rfl, .ref r, rfl, r, _, 1, .int (a + 1), rfl, rfl, SqL.of (show (upd H r (.lst [.ref sc, .int (a + 1), .int b, .int c])) r = _ from upd_same), rfl, _, _, rfl, rfl, sc, _, _, .int cell, rfl, rfl, (hS.keepR ⟨_, hH⟩ .upd).sql, at_of (j := a.toNat) (by omega) hc2, ?_⟩
      refine ⟨.ref r, rfl, r, _, 2, .int b, rfl, rfl, SqL.of (show (upd H r (.lst [.ref sc, .int (a + 1), .int b, .int c])) r = _ from upd_same), rfl, _, _, rfl, rfl, .inr ⟨by decide, by decide⟩, _, rfl, _, _, rfl, rfl, _, _, rfl, rfl, .inl ⟨_, rfl, _, _, rfl, rfl, (show (0 : Int) < 2147483647 by decide), .ref r, rfl, r, _, 2, 2, rfl, rfl, (show (upd H r (.lst [.ref sc, .int (a + 1), .int b, .int c])) r = _ from upd_same), rfl, ?_⟩⟩
      have hb3 := Int.emod_nonneg (b * 48271 + cell + 11) (b := 2147483647) (by omega)
      have hb4 := Int.emod_lt_of_pos (b * 48271 + cell + 11) (b := 2147483647) (by omega)
      obtain ⟨k, hk, hkm⟩ := fit cell
      refine ⟨_, rfl, _, _, rfl, rfl, ⟨by decide, by decide, by decide⟩, _, _, rfl, rfl, _, rfl, ite2 (fun e3 => ?_) (fun e3 => ?_)⟩
      · refine ⟨_, rfl, _, rfl, _, _, rfl, rfl, ⟨by omega, by omega⟩, .ref r, rfl, r, _, 3, 3, rfl, rfl, (show (upd _ r (.lst [.ref sc, .int (a + 1), .int ((b * 48271 + cell + 11) % 2147483647), .int c])) r = _ from upd_same), rfl, ?_⟩
        refine ⟨_, rfl, .inl ⟨_, rfl, _, rfl, _, _, rfl, rfl, by omega, ?_⟩⟩
        show Q (.int (cell % (m : Int))) _
        rw [hk]
        exact hQ _ _ ((SameR.upd.trans .upd).trans .upd) (rw' _ _ _ _ ((SameR.upd.trans .upd).trans .upd) upd_same (by omega) hb3 hb4) hkm
      · refine ⟨_, rfl, .inl ⟨_, rfl, _, rfl, _, _, rfl, rfl, by omega, ?_⟩⟩
        show Q (.int (cell % (m : Int))) _
        rw [hk]
        exact hQ _ _ (SameR.upd.trans .upd) (rw' _ _ _ _ (SameR.upd.trans .upd) upd_same (by omega) hb3 hb4) hkm
def spPick (K : PySem.W.Frag) : Sp := fun vs H Q _ => ∃ (r p : Addr) (xs : List V), vs = [.ref r, .ref p] ∧ 0 < xs.length ∧ xs.length < 1000000 ∧ Row K H r ∧ ((SqL K H p xs ∧ p ≠ r) ∨ SqT K H p xs) ∧
  ∀ H' (k : Nat) (x : V), SameR r H H' → Row K H' r → xs[k]? = some x → Q x H'
theorem ok_l_pick (T : Top K mg) : Has P w K mg base 2 "_law_pick" ["_law_row", "_law_things"] (spPick K) := by
  refine mk_has T.d_l_pick sc_l_pick (fun _ _ _ _ _ _ us hl => match us, hl with | [_, _], _ => rfl) (fun vs H Q E h => by obtain ⟨r, p, xs, rfl, _⟩ := h; rfl) (fun f cdv A outer s H vs Q E hr h => ?_)
  obtain ⟨r, p, xs, rfl, h0, h1, hR, hS, hQ⟩ := h
  refine ⟨_, pss_one (ps_ret (pe_ix ix_seq (pv 1) (pf (ok_l_taken T) hr (a2 (pv 0) (pe_callB call_len_seq (by rfl) T.b_len PySem.boot_len (a1 (pv 1))))) (fun _ _ => rfl))), ?_⟩
  refine ⟨_, rfl, _, rfl, _, rfl, p, xs, rfl, hS.elim (fun h => .inl h.1) .inr, r, xs.length, rfl, h0, h1, hR, fun H1 z e1 r1 hz => ?_⟩
  obtain ⟨x, hx⟩ : ∃ x, xs[z]? = some x := ⟨_, List.getElem?_eq_getElem hz⟩
  rcases hS with hS | hS
  · exact .inl ⟨p, xs, _, x, rfl, rfl, seqL_keepR hS.2 e1 hS.1, at_of (j := z) rfl hx, hQ _ z x e1 r1 hx⟩
  · exact .inr (.inl ⟨p, xs, _, x, rfl, rfl, seqT_keepR hR.at e1 hS, at_of (j := z) rfl hx, hQ _ z x e1 r1 hx⟩)
/-- a drawn ratio -/
abbrev Dq (q : Rat) : Prop := Gr 12 72 q
def spDraw (K : PySem.W.Frag) : Sp := fun vs H Q _ => ∃ (r : Addr), vs = [.ref r] ∧ Row K H r ∧ ∀ H' v q, SameR r H H' → Row K H' r → Rt K H' v q → Dq q → Q v H'
theorem row_new {K : PySem.W.Frag} {H : Hp} {r D : Addr} {o : HO} (h : Row K H r) (hD : H D = none) : Row K (upd H D o) r := h.keep (same_upd hD)
theorem ne_row {K : PySem.W.Frag} {H : Hp} {r D : Addr} (h : Row K H r) (hD : H D = none) : D ≠ r := by
  rintro rfl
  obtain ⟨l, e⟩ := h.at
  rw [e] at hD; cases hD
theorem ok_l_draw (T : Top K mg) : Has P w K mg base 3 "_law_draw" ["_law_row"] (spDraw K) := by
  refine mk_has T.d_l_draw sc_l_draw (fun _ _ _ _ _ _ us hl => match us, hl with | [_], _ => rfl) (fun vs H Q E h => by obtain ⟨r, rfl, _⟩ := h; rfl) (fun f cdv A outer s H vs Q E hr h => ?_)
  obtain ⟨r, rfl, hR, hQ⟩ := h
  refine ⟨_, pss_cons (ps_set (i := 1) sc_l_draw.nd rfl (.inl rfl) (pf (ok_l_pick T) hr (a2 (pv 0) (pe_lst (pa_cons pe_int (pa_cons pe_int (a3 pe_int pe_int pe_int)))))))
    (pss_one (ps_ret (pf (ok_l_made T) (hr.mono (by decide)) (a2 (pe_op op_sub (pf (ok_l_taken T) (hr.mono (by decide)) (a2 (pv 0) pe_int)) pe_int) (pv 1))))), ?_⟩
  refine ⟨_, rfl, (by show 5 ≤ sizeLine; decide), fun D hD => ⟨r, D, _, rfl, by decide, by decide, row_new hR hD, .inl ⟨SqL.of upd_same, ne_row hR hD⟩, fun H1 k x e1 r1 hx => ?_⟩⟩
  have e0 : SameR r H _ := Same.toR (same_upd (o := .lst [V.int 1, .int 1, .int 2, .int 3, .int 4]) hD)
  obtain ⟨l, rfl, hl⟩ : ∃ l : Int, x = .int l ∧ (l = 1 ∨ l = 2 ∨ l = 3 ∨ l = 4) := by
    match k, hx with
    | 0, hx => exact ⟨1, (Option.some.inj hx).symm, by omega⟩
    | 1, hx => exact ⟨1, (Option.some.inj hx).symm, by omega⟩
    | 2, hx => exact ⟨2, (Option.some.inj hx).symm, by omega⟩
    | 3, hx => exact ⟨3, (Option.some.inj hx).symm, by omega⟩
    | 4, hx => exact ⟨4, (Option.some.inj hx).symm, by omega⟩
    | k + 5, hx => cases hx
  refine ⟨_, rfl, r, 13, rfl, by decide, by decide, r1, fun H2 z e2 r2 hz => ?_⟩
  refine ⟨_, _, rfl, rfl, _, rfl, _, _, rfl, by omega, Nat.lt_of_le_of_lt (show l.natAbs ≤ 2 ^ 2 by show _ ≤ 4; omega) (Nat.pow_lt_pow_right (by decide) (by decide)), fun H3 v3 e3 q3 => ?_⟩
  refine hQ H3 v3 _ ((e0.trans (e1.trans e2)).trans (Same.toR e3)) (r2.keep e3) q3 ?_
  rcases hl with rfl | rfl | rfl | rfl
  · exact ⟨((z : Int) - 6) * 12, by grind, by omega⟩
  · exact ⟨((z : Int) - 6) * 6, by grind, by omega⟩
  · exact ⟨((z : Int) - 6) * 4, by grind, by omega⟩
  · exact ⟨((z : Int) - 6) * 3, by grind, by omega⟩
end
end Bc
end
section
set_option Elab.async false
set_option linter.all false
set_option maxRecDepth 100000
set_option maxHeartbeats 4000000
set_option exponentiation.threshold 200000
namespace Bc
open PySem PySem.Spec PyProof.Rows L2
theorem cutV_neg (xs : List V) (n : Nat) (h : 0 < n) (h2 : n ≤ xs.length) : cutV xs (some (-(n : Int))) none = xs.drop (xs.length - n) := by
  have e : HT.sIx xs.length 0 (some (-(n : Int))) = xs.length - n := by
    have := HT.clip_eq (-(n : Int)) xs.length 0
    rw [if_pos (by omega)] at this
    omega
  unfold cutV
  rw [e, HT.sIx_none, List.take_of_length_le (by rw [List.length_drop]; omega)]
theorem gr_nat {a : Nat} (h : a < 3) : Gr 12 36 ((1 + a : Nat) : Rat) := by
  refine ⟨((1 + a : Nat) : Int) * 12, ?_, by omega⟩
  rw [Rat.intCast_mul, Rat.intCast_natCast]
  grind
theorem join2 {α β : Type} {G C : α → β → Prop} {R : Prop} (h : (∀ a b, C a b → G a b) → R) (h2 : ∀ a b, C a b → G a b) : R := h h2
section
variable {P : Program} {w : World} {K : PySem.W.Frag} {mg : Str → Option Value} {base : Heap}
def spLSpline (K : PySem.W.Frag) : Sp := fun vs H Q _ => ∃ (r : Addr), vs = [.ref r, .int 4] ∧ Row K H r ∧
  ∀ H' v d kn c, SameR r H H' → Row K H' r → SplF K H' v d kn c → KnG d kn → c.length + d + 1 = kn.length → (∀ x ∈ c, Dq x) → Q v H'
theorem ok_l_spline (T : Top K mg) : Has P w K mg base 4 "_law_spline" ["_law_row", "_law_most"] (spLSpline K) := by
  refine mk_has T.d_l_spline sc_l_spline (fun _ _ _ _ _ _ us hl => match us, hl with | [_, _], _ => rfl) (fun vs H Q E h => by obtain ⟨r, rfl, _⟩ := h; rfl) (fun f cdv A outer s H vs Q E hr h => ?_)
  obtain ⟨r, rfl, hR, hQ⟩ := h
  refine ⟨_, pss_cons (ps_par (i := 2) (j := 3) (by rfl) sc_l_spline.nd rfl rfl (by decide) rfl rfl (a2 (pf (ok_l_taken T) (hr.mono (by decide)) (a2 (pv 0) (pe_op op_add (pv 1) pe_int))) (pf (ok_l_draw T) hr (a1 (pv 0)))) (by rfl))
    (pss_cons (ps_par (i := 4) (j := 5) (by rfl) sc_l_spline.nd rfl rfl (by decide) rfl rfl (a2 (pv 3) (pe_op op_rep (pe_lst (a1 (pv 3))) (pe_op op_add (pv 2) pe_int))) (by rfl))
    (pss_cons (ps_for PassesOwn.never rfl (pi_range1 (by rfl) T.b_range (a1 (pf (ok_l_taken T) (hr.mono (by decide)) (a2 (pv 0) pe_int)))) (pg_name (i := 6) sc_l_spline.nd rfl (.inl rfl))
      (pss_cons (ps_set (i := 4) sc_l_spline.nd rfl (.inl rfl) (pf (ok_l_plus T) (hr.mono (by decide)) (a2 (pv 4) (pf (ok_l_made T) (hr.mono (by decide)) (a2 (pe_op op_add pe_int (pf (ok_l_taken T) (hr.mono (by decide)) (a2 (pv 0) pe_int))) (pf (ok_l_pick T) (hr.mono (by decide)) (a2 (pv 0) (pe_lst (a3 pe_int pe_int pe_int)))))))))
      (pss_one (ps_set (i := 5) sc_l_spline.nd rfl (.inl rfl) (pe_op op_cat (pv 5) (pe_op op_rep (pe_lst (a1 (pv 4))) (pe_op op_add pe_int (pe_ifExp (pt_cmpR op_eq (pf (ok_l_taken T) (hr.mono (by decide)) (a2 (pv 0) pe_int)) pe_int (nomark _)) (pf (ok_l_taken T) (hr.mono (by decide)) (a2 (pv 0) (pe_op op_add (pv 2) pe_int))) pe_int))))))))
    (pss_cons (ps_set (i := 5) sc_l_spline.nd rfl (.inl rfl) (pe_op op_cat (pv 5) (pe_op op_rep (pe_lst (a1 (pf (ok_l_plus T) (hr.mono (by decide)) (a2 (pv 4) (pe_tup (a2 (pe_op op_add pe_int (pf (ok_l_taken T) (hr.mono (by decide)) (a2 (pv 0) pe_int))) pe_int)))))) (pe_op op_add (pv 2) pe_int))))
    (pss_cons (ps_set (i := 5) sc_l_spline.nd rfl (.inl rfl) (pe_ifExp (pt_cmpR op_gt (pe_callB call_len_seq (by rfl) T.b_len PySem.boot_len (a1 (pv 5))) pe_int (nomark _))
        (pe_callTy call_tuple_ofF (by rfl) T.b_tuple (by decide +kernel) (a1 (pe_op op_cat (pe_slice sl_list (pv 5) po_none (po_some (pe_op op_sub pe_int (pv 2)))) (pe_slice sl_list (pv 5) (po_some (pe_op op_sub (pe_un un_neg (pv 2)) pe_int)) po_none))))
        (pe_callTy call_tuple_ofF (by rfl) T.b_tuple (by decide +kernel) (a1 (pv 5)))))
    (pss_one (ps_ret (pe_tup (a3 (pv 2) (pv 5) (pe_callTy call_tuple_of (by rfl) T.b_tuple (by decide +kernel) (a1 (pe_lc (own := [("_law_at_here", 7)]) (g := gName 7) (te := tCall (spDraw K) [] E0 (tCons (tVar 0) tNil)) rfl sc_l_spline.nd (pi_range1 (by rfl) T.b_range (a1 (pe_op op_sub (pe_op op_sub (pe_callB call_len_seq (by rfl) T.b_len PySem.boot_len (a1 (pv 5))) (pv 2)) pe_int)))
      (blkOk_by (own := [("_law_at_here", 7)]) (N := n_l_spline) (sc := defScope s_l_spline) (by decide +kernel))
      (fun _ _ _ _ _ => pg_name (i := 7) sc_l_spline.nd rfl (Or.inl rfl)) (fun _ _ _ _ _ => pts_nil)
      (fun _ _ _ _ _ => pf (ok_l_draw T) hr (a1 (pv 0)))))))))))))), ?_⟩
  refine ⟨_, rfl, _, rfl, _, _, rfl, rfl, r, 5, rfl, by decide, by decide, hR, fun H1 d e1 r1 hd => ?_⟩
  refine ⟨_, rfl, r, rfl, r1, fun H2 vlow low e2 r2 rtl dql => ⟨_, _, rfl, ?_⟩⟩
  have e02 := e1.trans e2
  refine ⟨_, rfl, _, rfl, (by show 1 ≤ sizeLine; decide), fun l hl => ⟨_, rfl, _, _, rfl, rfl, l, _, _, rfl, rfl, upd_same, by omega, by omega, ?_, fun D hD => ⟨_, _, rfl, ?_⟩⟩⟩
  · show 1 * _ ≤ sizeLine
    rw [Nat.one_mul]; exact sz2 (by omega)
  have er : (List.replicate ((d : Int) + 1).toNat [vlow]).flatten = List.replicate (d + 1) vlow := by rw [flat_rep]; congr 1
  rw [er]
  have s3 : Same H2 (upd (upd H2 l (.lst [vlow])) D (.lst (List.replicate (d + 1) vlow))) := same_new (same_upd hl) ((same_upd hl).free hD)
  have hD3 : (upd (upd H2 l (.lst [vlow])) D (.lst (List.replicate (d + 1) vlow))) D = some (.lst (List.replicate (d + 1) vlow)) := upd_same
  have nD := ne_row r2 ((same_upd (o := .lst [vlow]) hl).free hD)
  generalize upd (upd H2 l (.lst [vlow])) D (.lst (List.replicate (d + 1) vlow)) = H3 at s3 hD3 ⊢
  have e03 := e02.trans (Same.toR s3)
  have r3 := r2.keep s3
  have rt3 := rtl.keep s3
  refine ⟨_, rfl, r, 4, rfl, by decide, by decide, r3, fun H4 z e4 r4 hz => ?_⟩
  refine ⟨_, rfl, by omega, by omega, ?_⟩
  refine for_range (n := ((z : Int)).toNat) (fun i σ H5 => ∃ L ls kl vnow now o6 o7, σ = [some (.ref r), some (.int 4), some (.int (d : Int)), some vlow, some vnow, some (.ref L), o6, o7] ∧ SameR r H H5 ∧ Row K H5 r ∧ H5 L = some (.lst ls) ∧ L ≠ r ∧ RtL K H5 ls kl ∧ Rt K H5 vnow now ∧ Bas d kl now ∧ kl.length ≤ (d + 1) * (i + 1) ∧ (∀ x ∈ kl, Gr 12 (72 + 48 * i) x) ∧ Gr 12 (72 + 48 * i) now)
    ⟨D, _, List.replicate (d + 1) low, _, low, _, _, rfl, e03.trans e4, r4, e4 _ _ nD hD3, nD, pr_rep (rt3.keepR r3.at e4) _, rt3.keepR r3.at e4, Bas.start d low, by simp, fun x hx => (List.eq_of_mem_replicate hx) ▸ dql, dql⟩ (fun i σ H5 hi hI => ?_) (fun σ H5 hI => ?_)
  · obtain ⟨L, ls, kl, vnow, now, o6, o7, rfl, e05, r5, hL, nL, hP, rn, hB, hlen, hg, hgn⟩ := hI
    have hi4 : i < 4 := by omega
    have hkl := Paired.length hP
    refine ⟨_, rfl, _, rfl, r, 4, rfl, by decide, by decide, r5, fun H6 a e6 r6 ha => ⟨_, _, rfl, rfl, ?_⟩⟩
    refine ⟨_, rfl, (by show 3 ≤ sizeLine; decide), fun D3 hD3' => ⟨r, D3, _, rfl, by decide, by decide, row_new r6 hD3', .inl ⟨SqL.of upd_same, ne_row r6 hD3'⟩, fun H7 k x e7 r7 hx => ?_⟩⟩
    have e57 : SameR r H5 H7 := (e6.trans (Same.toR (same_upd hD3'))).trans e7
    obtain ⟨b, rfl, hb⟩ : ∃ b : Int, x = .int b ∧ (b = 1 ∨ b = 2 ∨ b = 3) := by
      match k, hx with
      | 0, hx => exact ⟨1, (Option.some.inj hx).symm, by omega⟩
      | 1, hx => exact ⟨2, (Option.some.inj hx).symm, by omega⟩
      | 2, hx => exact ⟨3, (Option.some.inj hx).symm, by omega⟩
      | k + 3, hx => cases hx
    refine ⟨_, _, rfl, by omega, Nat.lt_of_le_of_lt (show b.natAbs ≤ 2 ^ 2 by show _ ≤ 4; omega) (Nat.pow_lt_pow_right (by decide) (by decide)), fun H8 v8 e8 q8 => ?_⟩
    have e58 := e57.trans (Same.toR e8)
    have r8 := r7.keep e8
    obtain ⟨gs, gp⟩ : Gr 12 48 (((1 + (a : Int) : Int) : Rat) / (b : Rat)) ∧ 0 < (((1 + (a : Int) : Int) : Rat) / (b : Rat)) := by
      have ha' : (0 : Rat) < ((1 + (a : Int) : Int) : Rat) := by exact_mod_cast (show (0 : Int) < 1 + (a : Int) by omega)
      rcases hb with rfl | rfl | rfl
      · exact ⟨⟨(1 + (a : Int)) * 12, by grind, by omega⟩, by grind⟩
      · exact ⟨⟨(1 + (a : Int)) * 6, by grind, by omega⟩, by grind⟩
      · exact ⟨⟨(1 + (a : Int)) * 4, by grind, by omega⟩, by grind⟩
    generalize ((1 + (a : Int) : Int) : Rat) / (b : Rat) = st at gs gp q8
    refine ⟨_, _, now, st, rfl, rn.keepR r5.at e58, q8, hgn.sm (by decide) (by decide) (by omega), gs.sm (by decide) (by decide) (by decide), fun H9 v9 e9 q9 => ?_⟩
    have e59 := e58.trans (Same.toR e9)
    have r9 := r8.keep e9
    have gn : Gr 12 (72 + 48 * (i + 1)) (now + st) := (hgn.add (by decide) gs).mono (by omega)
    -- the list grows
    have fin : ∀ (m : Nat) (H10 : Hp) (l2 : Addr), 0 < m → m ≤ d + 1 → SameR r H9 H10 → Row K H10 r → H10 l2 = some (.lst [v9]) → _ := fun m H10 l2 hm0 hm e10 r10 hl2 => (show
        rRep (.ref l2) (.int (m : Int)) H10 fun y H11 => rCat (.ref L) y H11 fun v H12 => (gName 5 : TG) v [some (.ref r), some (.int 4), some (.int (d : Int)), some vlow, some v9, some (.ref L), some (.int (0 + (i : Int))), o7] H12 fun σ H5 => ∃ L ls kl vnow now o6 o7, σ = [some (.ref r), some (.int 4), some (.int (d : Int)), some vlow, some vnow, some (.ref L), o6, o7] ∧ SameR r H H5 ∧ Row K H5 r ∧ H5 L = some (.lst ls) ∧ L ≠ r ∧ RtL K H5 ls kl ∧ Rt K H5 vnow now ∧ Bas d kl now ∧ kl.length ≤ (d + 1) * (i + 1 + 1) ∧ (∀ x ∈ kl, Gr 12 (72 + 48 * (i + 1)) x) ∧ Gr 12 (72 + 48 * (i + 1)) now from by
      have hlen2 : (d + 1) * (i + 1) ≤ 5 * 5 := Nat.mul_le_mul (by omega) (by omega)
      refine ⟨l2, _, _, rfl, rfl, hl2, by omega, by omega, ?_, fun D4 hD4 => ?_⟩
      · show 1 * _ ≤ sizeLine
        rw [Nat.one_mul]; exact sz2 (by omega)
      rw [Int.toNat_natCast, flat_rep]
      have e5x := (e59.trans e10).trans (Same.toR (same_upd (o := .lst (List.replicate m v9)) hD4))
      refine ⟨L, D4, ls, _, rfl, rfl, e5x _ _ nL hL, upd_same, sz2 (by rw [List.length_replicate]; omega), fun D5 hD5 => ?_⟩
      have e6x := e5x.trans (Same.toR (same_upd (o := .lst (ls ++ List.replicate m v9)) hD5))
      have r11 := row_new (o := .lst (List.replicate m v9)) r10 hD4
      have e9x := (e10.trans (Same.toR (same_upd (o := .lst (List.replicate m v9)) hD4))).trans (Same.toR (same_upd (o := .lst (ls ++ List.replicate m v9)) hD5))
      refine ⟨D5, _, kl ++ List.replicate m (now + st), v9, now + st, _, _, rfl, e05.trans e6x, row_new r11 hD5, upd_same, ne_row r11 hD5, pr_append (rtl_keepR hP r5.at e6x) (pr_rep (q9.keepR r9.at e9x) _), q9.keepR r9.at e9x, hB.more (by grind) hm, ?_, fun x hx => ?_, gn⟩
      · rw [List.length_append, List.length_replicate, show (d + 1) * (i + 1 + 1) = (d + 1) * (i + 1) + (d + 1) from Nat.mul_succ _ _]; omega
      · rcases List.mem_append.mp hx with h | h
        · exact (hg x h).mono (by omega)
        · rw [List.eq_of_mem_replicate h]; exact gn)
    refine ⟨_, rfl, _, rfl, (by show 1 ≤ sizeLine; decide), fun l2 hl2 => ?_⟩
    have sl2 := same_upd (o := .lst [v9]) hl2
    have r10 := r9.keep sl2
    refine ⟨_, rfl, r, 3, rfl, by decide, by decide, r10, fun H10 c e10 r11 hc => ⟨rfl, _, rfl, ?_⟩⟩
    have nl2 := ne_row r9 hl2
    have hl3 : H10 l2 = some (.lst [v9]) := e10 _ _ nl2 upd_same
    refine ite2 (fun _ => ?_) (fun _ => ⟨_, _, rfl, rfl, ?_⟩)
    · refine ⟨_, rfl, _, rfl, _, _, rfl, rfl, r, d + 1, rfl, by omega, by omega, r11, fun H11 m e11 r12 hm => ⟨_, _, rfl, rfl, ?_⟩⟩
      have := fin (1 + m) H11 l2 (by omega) (by omega) (((Same.toR sl2 : SameR r _ _).trans e10).trans e11) r12 (e11 _ _ nl2 hl3)
      rw [Int.natCast_add] at this
      exact this
    · exact fin 1 H10 l2 (by omega) (by omega) ((Same.toR sl2 : SameR r _ _).trans e10) r11 hl3
  · obtain ⟨L, ls, kl, vnow, now, o6, o7, rfl, e05, r5, hL, nL, hP, rn, hB, hlen, hg, hgn⟩ := hI
    have hlen2 : kl.length ≤ 20 := Nat.le_trans hlen (Nat.le_trans (Nat.mul_le_mul (show d + 1 ≤ 5 by omega) (show ((z : Int)).toNat + 1 ≤ 4 by omega)) (by decide))
    have hkl := Paired.length hP
    have hz4 : ((z : Int)).toNat ≤ 3 := by omega
    refine ⟨_, rfl, _, rfl, _, rfl, r, 3, rfl, by decide, by decide, r5, fun H6 a e6 r6 ha => ⟨_, _, rfl, rfl, (by show 2 ≤ sizeLine; decide), fun t ht => ?_⟩⟩
    have e6t := e6.trans (Same.toR (same_upd (o := .tup [.int (1 + (a : Int)), .int 1]) ht))
    have ga : Gr 12 36 ((1 + a : Nat) : Rat) := gr_nat ha
    refine ⟨_, _, now, ((1 + a : Nat) : Rat), rfl, rn.keepR r5.at e6t, ⟨t, rfl, SqT.of ?_⟩, hgn.sm (by decide) (by decide) (by omega), ga.sm (by decide) (by decide) (by decide), fun H7 v7 e7 q7 => ?_⟩
    · rw [upd_same, rv_nat, ← show (1 : Int) + (a : Int) = ((1 + a : Nat) : Int) by omega]
    have e57 := e6t.trans (Same.toR e7)
    have r7 := (row_new (o := .tup [.int (1 + (a : Int)), .int 1]) r6 ht).keep e7
    have gh : Gr 12 252 (now + ((1 + a : Nat) : Rat)) := by
      have := hgn.add (by decide) ga
      exact this.mono (by omega)
    have hlt : now < now + ((1 + a : Nat) : Rat) := by
      have : (0 : Rat) < ((1 + a : Nat) : Rat) := by exact_mod_cast (show 0 < 1 + a by omega)
      grind
    change Rt _ _ _ (now + ((1 + a : Nat) : Rat)) at q7
    generalize now + ((1 + a : Nat) : Rat) = hi at q7 gh hlt
    refine ⟨(by show 1 ≤ sizeLine; decide), fun l2 hl2 => ⟨_, rfl, _, _, rfl, rfl, l2, _, _, rfl, rfl, upd_same, by omega, by omega, ?_, fun D4 hD4 => ?_⟩⟩
    · show 1 * _ ≤ sizeLine
      rw [Nat.one_mul]; exact sz2 (by omega)
    rw [show (List.replicate ((d : Int) + 1).toNat [v7]).flatten = List.replicate (d + 1) v7 by rw [flat_rep]; congr 1]
    have s7 : Same H7 (upd (upd H7 l2 (.lst [v7])) D4 (.lst (List.replicate (d + 1) v7))) := same_new (same_upd hl2) ((same_upd hl2).free hD4)
    have hD4' : (upd (upd H7 l2 (.lst [v7])) D4 (.lst (List.replicate (d + 1) v7))) D4 = some (.lst (List.replicate (d + 1) v7)) := upd_same
    generalize upd (upd H7 l2 (.lst [v7])) D4 (.lst (List.replicate (d + 1) v7)) = H8 at s7 hD4' ⊢
    have e58 := e57.trans (Same.toR s7)
    have r8 := r7.keep s7
    refine ⟨L, D4, ls, _, rfl, rfl, e58 _ _ nL hL, hD4', sz2 (by rw [List.length_replicate]; omega), fun D5 hD5 => ?_⟩
    have s8 := same_upd (o := .lst (ls ++ List.replicate (d + 1) v7)) hD5
    have hD5' : (upd H8 D5 (.lst (ls ++ List.replicate (d + 1) v7))) D5 = some (.lst (ls ++ List.replicate (d + 1) v7)) := upd_same
    have r9 := row_new (o := .lst (ls ++ List.replicate (d + 1) v7)) r8 hD5
    have nD5 := ne_row r8 hD5
    generalize upd H8 D5 (.lst (ls ++ List.replicate (d + 1) v7)) = H9 at s8 hD5' r9 ⊢
    have e59 := e58.trans (Same.toR s8)
    have q9 := (q7.keep s7).keep s8
    have hP9 : RtL K H9 (ls ++ List.replicate (d + 1) v7) (kl ++ List.replicate (d + 1) hi) := pr_append (rtl_keepR hP r5.at e59) (pr_rep q9 _)
    have hg9 : ∀ x ∈ kl ++ List.replicate (d + 1) hi, Gr 12 252 x := fun x hx => by
      rcases List.mem_append.mp hx with h | h
      · exact (hg x h).mono (by omega)
      · rw [List.eq_of_mem_replicate h]; exact gh
    have hlt' := Paired.length hP9
    have hls := Paired.length hP
    have lenk : (kl ++ List.replicate (d + 1) hi).length = kl.length + (d + 1) := by rw [List.length_append, List.length_replicate]
    refine ⟨_, rfl, D5, _, rfl, .inl (SqL.of hD5'), _, _, rfl, rfl, _, rfl, ?_⟩
    apply join2 (C := fun (HA : Hp) (c : Addr) => ∃ o vs kn, SameR r H HA ∧ Row K HA r ∧ HA c = some (.frz o (.tup vs)) ∧ o.dict = none ∧ RtL K HA vs kn ∧ KnG d kn)
    intro fin
    refine ite2 (fun e => ?_) (fun e => ?_)
    · have hbig : 16 < kl.length + (d + 1) := by have := of_decide_eq_true e; rw [hlt', lenk] at this; omega
      have hls2 : (ls ++ List.replicate (d + 1) v7).length = kl.length + (d + 1) := by rw [hlt', lenk]
      refine ⟨_, rfl, _, rfl, _, _, rfl, rfl, _, rfl, D5, _, rfl, SqL.of hD5', fun b1 hb1 => ?_⟩
      refine ⟨_, rfl, _, rfl, _, rfl, _, _, rfl, rfl, _, rfl, D5, _, rfl, SqL.of (same_upd hb1 _ _ hD5'), fun b2 hb2 => ?_⟩
      refine ⟨b1, b2, _, _, rfl, rfl, same_upd hb2 _ _ upd_same, upd_same, ?_, fun b3 hb3 => ?_⟩
      · refine sz2 ?_
        have h1 := cutV_length (ls ++ List.replicate (d + 1) v7) none (some (15 - (d : Int)))
        have h2 := cutV_length (ls ++ List.replicate (d + 1) v7) (some (-(d : Int) - 1)) none
        omega
      refine ⟨b3, _, rfl, SqL.of upd_same, fun c o hc ho => ?_⟩
      have sAll := (((same_upd (o := .lst (cutV (ls ++ List.replicate (d + 1) v7) none (some (15 - (d : Int))))) hb1).trans (same_upd (o := .lst (cutV (ls ++ List.replicate (d + 1) v7) (some (-(d : Int) - 1)) none)) hb2)).trans (same_upd (o := .lst (cutV (ls ++ List.replicate (d + 1) v7) none (some (15 - (d : Int))) ++ cutV (ls ++ List.replicate (d + 1) v7) (some (-(d : Int) - 1)) none)) hb3)).trans (same_upd (o := .frz o (.tup (cutV (ls ++ List.replicate (d + 1) v7) none (some (15 - (d : Int))) ++ cutV (ls ++ List.replicate (d + 1) v7) (some (-(d : Int) - 1)) none))) hc)
      have hcc : (upd _ c (.frz o (.tup (cutV (ls ++ List.replicate (d + 1) v7) none (some (15 - (d : Int))) ++ cutV (ls ++ List.replicate (d + 1) v7) (some (-(d : Int) - 1)) none)))) c = _ := upd_same (H := upd (upd (upd H9 b1 (.lst (cutV (ls ++ List.replicate (d + 1) v7) none (some (15 - (d : Int)))))) b2 (.lst (cutV (ls ++ List.replicate (d + 1) v7) (some (-(d : Int) - 1)) none))) b3 (.lst (cutV (ls ++ List.replicate (d + 1) v7) none (some (15 - (d : Int))) ++ cutV (ls ++ List.replicate (d + 1) v7) (some (-(d : Int) - 1)) none)))
      generalize upd (upd (upd (upd H9 b1 _) b2 _) b3 _) c _ = HA at sAll hcc ⊢
      refine fin HA c ⟨o, _, kl.take (15 - d) ++ List.replicate (d + 1) hi, e05.trans (e59.trans (Same.toR sAll)), r9.keep sAll, hcc, ho, ?_, ?_⟩
      · rw [show (15 : Int) - (d : Int) = ((15 - d : Nat) : Int) by omega, show -(d : Int) - 1 = -((d + 1 : Nat) : Int) by omega, cutV_to _ _ (by omega), cutV_neg _ _ (by omega) (by omega)]
        have h1 := pr_take (15 - d) (rtl_keep hP9 sAll)
        have h2 := pr_drop (kl.length) (rtl_keep hP9 sAll)
        rw [List.take_append_of_le_length (by omega), List.drop_left] at *
        rw [List.take_append_of_le_length (by omega)] at h1
        rw [show (ls ++ List.replicate (d + 1) v7).length - (d + 1) = kl.length by omega]
        exact pr_append h1 h2
      · have hb15 := hB.take (n := 15 - d) (by omega)
        refine hb15.kn hlt (by omega) (by rw [List.length_take]; omega) (fun x hx => hg9 x ?_)
        rcases List.mem_append.mp hx with h | h
        · exact List.mem_append_left _ (List.mem_of_mem_take h)
        · exact List.mem_append_right _ h
    · refine ⟨_, rfl, D5, _, rfl, SqL.of hD5', fun c o hc ho => ?_⟩
      have hsm : kl.length + (d + 1) ≤ 16 := by
        have : ¬ 16 < ((ls ++ List.replicate (d + 1) v7).length : Int) := fun z => e (decide_eq_true z)
        rw [hlt', lenk] at this; omega
      have sAll := same_upd (o := .frz o (.tup (ls ++ List.replicate (d + 1) v7))) hc
      have hcc : (upd H9 c (.frz o (.tup (ls ++ List.replicate (d + 1) v7)))) c = _ := upd_same
      generalize upd H9 c _ = HA at sAll hcc ⊢
      exact fin HA c ⟨o, _, _, e05.trans (e59.trans (Same.toR sAll)), r9.keep sAll, hcc, ho, rtl_keep hP9 sAll, hB.kn hlt (by omega) (by omega) hg9⟩
    · intro HA c hC
      obtain ⟨o, vs, kn, eA, rA, hc, ho, hPA, hk⟩ := hC
      have hvl := Paired.length hPA
      have hl2 := hk.len2
      have hl16 := hk.len16
      have hsq : SqT K HA c vs := .inl (.inr ⟨o, hc⟩)
      refine ⟨_, rfl, _, rfl, _, rfl, c, vs, rfl, .inr hsq, _, rfl, _, _, rfl, rfl, _, _, rfl, rfl, _, rfl, by omega, by omega, fun D hD => ?_⟩
      have nD := ne_row rA hD
      refine lc_range (n := ((vs.length : Int) - (d : Int) - 1).toNat) (fun i H1 => SameR r HA H1 ∧ Row K H1 r ∧ ∃ acc cs, H1 D = some (.lst acc) ∧ RtL K H1 acc cs ∧ cs.length = i ∧ ∀ x ∈ cs, Dq x) ⟨Same.toR (same_upd hD), row_new rA hD, [], [], upd_same, .nil, rfl, fun x hx => by cases hx⟩ (fun i H1 hi hI => ?_) (fun H1 hI => ?_)
      · obtain ⟨eI, rI, acc, cs, hA, hR1, hcs, hdq⟩ := hI
        have hla := Paired.length hR1
        refine ⟨rfl, _, rfl, r, rfl, rI, fun H2 v2 q2 e2 r2 rt2 dq2 => ?_⟩
        have hA2 := e2 _ _ nD hA
        refine ⟨acc, hA2, sz1 (by omega), (eI.trans e2).new hD, row_upd r2 hA2 nD, _, cs ++ [q2], upd_same, pr_append (rtl_upd hA2 (rtl_keepR hR1 rI.at e2)) (.cons (rt_upd hA2 rt2) .nil), by rw [List.length_append]; simp [hcs], fun x hx => ?_⟩
        rcases List.mem_append.mp hx with h | h
        · exact hdq x h
        · rw [List.mem_singleton.mp h]; exact dq2
      · obtain ⟨eI, rI, acc, cs, hA, hR1, hcs, hdq⟩ := hI
        refine ⟨D, acc, rfl, .inl ⟨SqL.of hA, fun c2 hc2 => ⟨(by show 3 ≤ sizeLine; decide), fun p hp => ?_⟩⟩⟩
        have s2 := (same_upd (o := .tup acc) hc2).trans (same_upd (o := .tup [.int (d : Int), .ref c, .ref c2]) hp)
        have eF := eI.trans (Same.toR s2)
        have hkn : Kn K HA (.ref c) kn := ⟨c, o, vs, rfl, hc, ho, hPA⟩
        have hc3 : (upd (upd H1 c2 (.tup acc)) p (.tup [.int (d : Int), .ref c, .ref c2])) c2 = some (.tup acc) := same_upd hp _ _ upd_same
        exact hQ _ _ d kn cs (eA.trans eF) (rI.keep s2) ⟨p, _, _, rfl, SqT.of upd_same, hkn.keepR rA.at eF, c2, acc, rfl, SqT.of hc3, rtl_keep hR1 s2⟩ hk (by omega) hdq
end
end Bc
end
section
set_option Elab.async false
set_option linter.all false
set_option maxRecDepth 100000
set_option maxHeartbeats 4000000
set_option exponentiation.threshold 200000
namespace Bc
open PySem PySem.Spec PyProof.Rows L2
theorem kit_is {K : PySem.W.Frag} : PySem.W.kitOne K (.type "int") (.type "str") = some false := kit_ty (by decide +kernel)
theorem kit_itl {K : PySem.W.Frag} : PySem.W.kitAny K (.type "int") [.type "tuple", .type "list"] = some false :=
  kitAny_cons (b := false) (kit_ty (by decide +kernel)) (fun _ => kitAny_cons (b := false) (kit_ty (by decide +kernel)) (fun _ => kitAny_nil) (fun z => nomatch z)) (fun z => nomatch z)
theorem Gr.mid {a b : Rat} {z : Nat} (ha : Gr 12 252 a) (hb : Gr 12 252 b) (hz : z < 13) (hab : a ≤ b) : Gr 144 3024 (a + (z : Rat) / 12 * (b - a)) ∧ a ≤ a + (z : Rat) / 12 * (b - a) ∧ a + (z : Rat) / 12 * (b - a) ≤ b := by
  obtain ⟨n, rfl, hn⟩ := ha
  obtain ⟨m, rfl, hm⟩ := hb
  have h1 : (0 : Rat) ≤ (z : Rat) := by exact_mod_cast Nat.zero_le z
  have h2 : (z : Rat) ≤ 12 := by exact_mod_cast (show z ≤ 12 by omega)
  generalize hzz : (z : Rat) = y at h1 h2
  have hp : 0 ≤ y / 12 * ((m : Rat) / ((12 : Nat) : Rat) - (n : Rat) / ((12 : Nat) : Rat)) := Rat.mul_nonneg (by grind) (by grind)
  have hp2 : 0 ≤ (1 - y / 12) * ((m : Rat) / ((12 : Nat) : Rat) - (n : Rat) / ((12 : Nat) : Rat)) := Rat.mul_nonneg (by grind) (by grind)
  refine ⟨⟨n * (12 - (z : Int)) + (z : Int) * m, ?_, ?_⟩, by grind, by grind⟩
  · rw [← hzz, Rat.intCast_add, Rat.intCast_mul, Rat.intCast_mul, Rat.intCast_sub, Rat.intCast_natCast]
    grind
  · have a1 : (n * (12 - (z : Int))).natAbs ≤ 252 * (12 - z) := by
      rw [Int.natAbs_mul]; exact Nat.mul_le_mul hn (by omega)
    have a2 : ((z : Int) * m).natAbs ≤ z * 252 := by
      rw [Int.natAbs_mul]; exact Nat.mul_le_mul (by omega) hm
    have a3 := Int.natAbs_add_le (n * (12 - (z : Int))) ((z : Int) * m)
    omega
theorem q_raw (s m : Nat) (b : Rat) (hm : 0 < m) : (((s : Int) * b.num : Int) : Rat) / (((m : Int) * (b.den : Int) : Int) : Rat) = (s : Rat) / (m : Rat) * b := by
  have e := q_frac b
  have hd : (b.den : Rat) ≠ 0 := natc_ne b.den_pos
  have hm' : (m : Rat) ≠ 0 := natc_ne hm
  rw [Rat.intCast_natCast] at e
  rw [Rat.intCast_mul, Rat.intCast_mul, Rat.intCast_natCast, Rat.intCast_natCast, Rat.intCast_natCast]
  generalize (b.num : Rat) = x at *
  generalize (b.den : Rat) = y at *
  generalize (m : Rat) = z at *
  grind
theorem gr_z12 {z : Nat} (h : z < 13) : Gr 12 12 ((z : Rat) / 12) := ⟨z, by rw [Rat.intCast_natCast]; grind, by omega⟩
theorem Gr.sub {D b c : Nat} (hD : 0 < D) {x y : Rat} (h : Gr D b x) (g : Gr D c y) : Gr D (b + c) (x - y) := by
  obtain ⟨n, rfl, h⟩ := h
  obtain ⟨m, rfl, g⟩ := g
  exact ⟨n - m, by grind, by omega⟩
theorem sm_gg {D b E c : Nat} {x y : Rat} (h : Gr D b x) (g : Gr E c y) (h1 : 0 < D) (h2 : 0 < E) (h3 : D * E < 2 ^ 64) (h4 : b < 2 ^ 64) (h5 : c < 2 ^ 64) : Sm (x * y) :=
  ((h.lat h1 h4).times (g.lat h2 h5)).sm (Nat.mul_pos h1 h2) (Nat.lt_trans h3 (Nat.pow_lt_pow_right (by decide) (by decide))) (by decide)
theorem made_12 (z : Nat) : (((z : Int) : Rat) / ((12 : Int) : Rat)) = (z : Rat) / 12 := by rw [Rat.intCast_natCast]; grind
section
variable {P : Program} {w : World} {K : PySem.W.Frag} {mg : Str → Option Value} {base : Heap}
def spWithin (K : PySem.W.Frag) : Sp := fun vs H Q _ => ∃ (r : Addr) (v : V) (d : Nat) (kn c : List Rat), vs = [.ref r, v] ∧ Row K H r ∧ SplF K H v d kn c ∧ KnG d kn ∧
  ∀ H' u x, SameR r H H' → Row K H' r → Rt K H' u x → Gr 144 3024 x → kn.getD 0 0 ≤ x → x ≤ kn.getD (kn.length - 1) 0 → Q u H'
theorem ok_l_within (T : Top K mg) : Has P w K mg base 4 "_law_within" ["_law_row", "_law_spline_here"] (spWithin K) := by
  refine mk_has T.d_l_within sc_l_within (fun _ _ _ _ _ _ us hl => match us, hl with | [_, _], _ => rfl) (fun vs H Q E h => by obtain ⟨r, v, d, kn, c, rfl, _⟩ := h; rfl) (fun f cdv A outer s H vs Q E hr h => ?_)
  obtain ⟨r, v, d, kn, c, rfl, hR, hs, hk, hQ⟩ := h
  refine ⟨_, pss_cons (ps_par (i := 2) (j := 3) (by rfl) sc_l_within.nd rfl rfl (by decide) rfl rfl (a2 (pe_ix ix_tup (pe_ix ix_tup (pv 1) pe_int (fun _ _ => rfl)) pe_int (fun _ _ => rfl)) (pe_ix ix_tup (pe_ix ix_tup (pv 1) pe_int (fun _ _ => rfl)) (pe_un un_neg pe_int) (fun _ _ => rfl))) (by rfl))
    (pss_cons (ps_if (pt_cmpR op_eq (pf (ok_l_taken T) (hr.mono (by decide)) (a2 (pv 0) pe_int)) pe_int (nomark _)) (pss_one (ps_ret (pf (ok_l_pick T) (hr.mono (by decide)) (a2 (pv 0) (pe_ix ix_tup (pv 1) pe_int (fun _ _ => rfl)))))) pss_nil)
    (pss_one (ps_ret (pf (ok_l_middle T) hr (a3 (pv 2) (pv 3) (pf (ok_l_made T) (hr.mono (by decide)) (a2 (pf (ok_l_taken T) (hr.mono (by decide)) (a2 (pv 0) pe_int)) pe_int))))))), ?_⟩
  obtain ⟨a, kv, rw', rfl, hS, hkn, hc⟩ := id hs
  obtain ⟨ka, ko, kx, rfl, kH, kd, kP⟩ := id hkn
  have kS : SqT K H ka kx := .inl (.inr ⟨ko, kH⟩)
  have hkl := Paired.length kP
  have l2 := hk.len2
  have l16 := hk.len16
  have i0 : 0 < kn.length := by omega
  have i1 : kn.length - 1 < kn.length := by omega
  obtain ⟨y0, hy0, r0⟩ := pr_get kP (at_getD i0)
  obtain ⟨y1, hy1, r1⟩ := pr_get kP (at_getD i1)
  have hlh : kn.getD 0 0 ≤ kn.getD (kn.length - 1) 0 := hk.so _ _ (by omega) i1
  have g0 := hk.ge.1
  have g1 := hk.ge.2
  refine ⟨_, rfl, a, _, 1, _, rfl, rfl, hS, atI_nat (j := 1) rfl, ka, kx, 0, y0, rfl, rfl, kS, at_of (j := 0) rfl hy0, _, rfl, a, _, 1, _, rfl, rfl, hS, atI_nat (j := 1) rfl, _, rfl, ka, kx, _, y1, rfl, rfl, kS, atI_neg (j := 1) (by omega) (by omega) rfl (by rw [hkl]; exact hy1), _, _, rfl, ?_⟩
  refine ⟨_, rfl, r, 3, rfl, by decide, by decide, hR, fun H1 z e1 rr1 hz => ⟨rfl, _, rfl, ite2 (fun _ => ?_) (fun _ => ?_)⟩⟩
  · refine ⟨_, rfl, _, rfl, a, _, 1, _, rfl, rfl, seqT_keepR hR.at e1 hS, atI_nat (j := 1) rfl, r, ka, kx, rfl, by omega, by omega, rr1, .inr (seqT_keepR hR.at e1 kS), fun H2 k u e2 rr2 hu => ?_⟩
    obtain ⟨x, hx, rx⟩ := pr_get2 kP hu
    have hkx := (List.getElem?_eq_some_iff.mp hx).1
    have ex : kn.getD k 0 = x := getD_at hx
    have e12 := e1.trans e2
    refine hQ _ _ x e12 rr2 (rx.keepR hR.at e12) (hk.gr x (List.mem_of_getElem? hx)) ?_ ?_
    · rw [← ex]; exact hk.so 0 k (by omega) hkx
    · rw [← ex]; exact hk.so k _ (by omega) i1
  · refine ⟨_, rfl, _, rfl, _, rfl, r, 13, rfl, by decide, by decide, rr1, fun H2 z2 e2 rr2 hz2 => ⟨_, _, rfl, by decide, by decide, fun H3 v3 e3 q3 => ?_⟩⟩
    have e12 := e1.trans e2
    have e13 := e12.trans (Same.toR e3)
    obtain ⟨m1, m2, m3⟩ := Gr.mid g0 g1 hz2 hlh
    have gz := gr_z12 hz2
    rw [made_12] at q3
    have gd := g1.sub (by decide) g0
    exact ⟨_, _, _, _, _, _, rfl, r0.keepR hR.at e13, r1.keepR hR.at e13, q3, g0.sm (by decide) (by decide) (by decide), g1.sm (by decide) (by decide) (by decide), gz.sm (by decide) (by decide) (by decide), gd.sm (by decide) (by decide) (by decide), sm_gg gz gd (by decide) (by decide) (by decide) (by decide) (by decide), fun H4 v4 e4 q4 => hQ _ _ _ (e13.trans (Same.toR e4)) (rr2.keep (e3.trans e4)) q4 m1 m2 m3⟩
def spAlike : Sp := fun vs H Q _ => ∃ i j : Int, vs = [.int i, .int j] ∧ ∀ H', Same H H' → Q (.bl (decide (i = j))) H'
theorem ok_l_alike (T : Top K mg) : Has P w K mg base 1 "_law_alike" ["_law_found", "_law_due"] spAlike := by
  refine mk_has T.d_l_alike sc_l_alike (fun _ _ _ _ _ _ us hl => match us, hl with | [_, _], _ => rfl) (fun vs H Q E h => by obtain ⟨i, j, rfl, _⟩ := h; rfl) (fun f cdv A outer s H vs Q E hr h => ?_)
  obtain ⟨i, j, rfl, hQ⟩ := h
  refine ⟨_, pss_cons (ps_if (pt_val (pe_callB call_isiT (by rfl) T.b_isinstance (by decide +kernel) (a2 (pv 1) (pe_tup (a2 (pe_bltn (by rfl) T.b_tuple (by decide +kernel) (show RelV (.ty "tuple") (.type "tuple") from rfl) (by decide) (by decide)) (pe_bltn (by rfl) T.b_list (by decide +kernel) (show RelV (.ty "list") (.type "list") from rfl) (by decide) (by decide))))))) pss_never pss_nil)
    (pss_cons (ps_if (PW.pt (pw_or (pt_cmpR op_isN (pv 1) pe_non (nomark _)) (pw_or1 (pt_val (pe_is (n := "str") T.b_isinstance T.b_str (pv 1)))))) pss_never pss_nil)
    (pss_one (ps_ret (pe_and (pe_is (n := "int") T.b_isinstance T.b_int (pv 0)) (pe_and (pe_cmpR op_eq (pe_is (n := "bool") T.b_isinstance T.b_bool (pv 0)) (pe_is (n := "bool") T.b_isinstance T.b_bool (pv 1)) (nomark _)) (pe_one (pe_cmpR op_eq (pv 0) (pv 1) (nomark _)))))))), ?_⟩
  refine ⟨_, rfl, (by show 2 ≤ sizeLine; decide), fun p hp => ⟨_, p, _, _, _, false, rfl, upd_same, .cons (.ty _) (.cons (.ty _) .nil), ty_int j, kit_itl, false, rfl, iteF ?_⟩⟩
  have s0 := same_upd (o := .tup [V.ty "tuple", .ty "list"]) hp
  refine ⟨_, rfl, rfl, false, rfl, iteF ⟨_, rfl, _, _, _, _, false, rfl, .ty _, ty_int j, kit_is, false, rfl, iteF ?_⟩⟩
  refine ⟨_, rfl, _, _, _, _, true, rfl, .ty _, ty_int i, kit_ii, true, rfl, iteT ⟨_, rfl, _, _, _, _, false, rfl, .ty _, ty_int i, kit_ib, _, rfl, _, _, _, _, false, rfl, .ty _, ty_int j, kit_ib, rfl, true, rfl, iteT ⟨_, rfl, _, rfl, rfl, ?_⟩⟩⟩
  show Q (.bl (decide (V.int i = V.int j))) _
  rw [show decide (V.int i = V.int j) = decide (i = j) from decide_eq_decide.mpr ⟨fun e => V.int.inj e, fun e => by rw [e]⟩]
  exact hQ _ s0
def spFits (K : PySem.W.Frag) : Sp := fun vs H Q _ => ∃ v d kn c, vs = [v] ∧ SplV K H v d kn c ∧ d ≤ 4 ∧ kn.length ≤ 900 ∧ c.length + d + 1 = kn.length ∧ (∀ a ∈ kn, Sm a) ∧ sortL [] kn = kn ∧ kn.getD 0 0 = kn.getD d 0 ∧ kn.getD (kn.length - 1) 0 = kn.getD (kn.length - 1 - d) 0 ∧
  ∀ H', Same H H' → Q (.bl true) H'
theorem ok_l_fits (T : Top K mg) : Has P w K mg base 3 "_law_fits_spline" ["_law_value"] (spFits K) := by
  refine mk_has T.d_l_fits_spline sc_l_fits_spline (fun _ _ _ _ _ _ us hl => match us, hl with | [_], _ => rfl) (fun vs H Q E h => by obtain ⟨v, d, kn, c, rfl, _⟩ := h; rfl) (fun f cdv A outer s H vs Q E hr h => ?_)
  obtain ⟨v, d, kn, c, rfl, ⟨a, kv, rw', rfl, hS, hk, hc⟩, d4, hl9, hlen, hsm, hso, hf, hla, hQ⟩ := h
  refine ⟨_, pss_cons (ps_asg (pv 0) (pg_tup rfl (pgs_cons (pg_name (i := 1) sc_l_fits_spline.nd rfl (.inl rfl)) (pgs_cons (pg_name (i := 2) sc_l_fits_spline.nd rfl (.inl rfl)) (pgs_cons (pg_name (i := 3) sc_l_fits_spline.nd rfl (.inl rfl)) pgs_nil)))))
    (pss_cons (ps_if (PW.pt (pw_or (pt_not (pt_val (pe_is (n := "tuple") T.b_isinstance T.b_tuple (pv 0)))) (pw_or (pt_not (pt_val (pe_is (n := "tuple") T.b_isinstance T.b_tuple (pv 2)))) (pw_or1 (pt_not (pt_val (pe_is (n := "tuple") T.b_isinstance T.b_tuple (pv 3)))))))) pss_never pss_nil)
    (pss_cons (ps_if (PW.pt (pw_or (pt_cmpR op_ne (pe_callB call_len_seq (by rfl) T.b_len PySem.boot_len (a1 (pv 3))) (pe_op op_sub (pe_op op_sub (pe_callB call_len_seq (by rfl) T.b_len PySem.boot_len (a1 (pv 2))) (pv 1)) pe_int) (nomark _))
        (pw_or1 (pt_cmpR (op_neD hr.units) (pe_callTy call_list_of (by rfl) T.b_list (by decide +kernel) (a1 (pv 2))) (pf (ok_l_sorted T) hr (a1 (pv 2))) (nomark _))))) pss_never pss_nil)
    (pss_one (ps_ret (pe_and (pe_cmpR (op_eqD hr.units) (pe_ix ix_tup (pv 2) pe_int (fun _ _ => rfl)) (pe_ix ix_tup (pv 2) (pv 1) (fun _ _ => rfl)) (nomark _)) (pe_one (pe_cmpR (op_eqD hr.units) (pe_ix ix_tup (pv 2) (pe_un un_neg pe_int) (fun _ _ => rfl)) (pe_ix ix_tup (pv 2) (pe_op op_sub (pe_op op_sub (pe_callB call_len_seq (by rfl) T.b_len PySem.boot_len (a1 (pv 2))) pe_int) (pv 1)) (fun _ _ => rfl)) (nomark _)))))))), ?_⟩
  obtain ⟨ka, kx, rfl, kS, kP⟩ := id hk
  obtain ⟨ra, rx, rfl, rS, rP⟩ := id hc
  have hkl := Paired.length kP
  have hrl := Paired.length rP
  refine ⟨_, rfl, a, _, rfl, hS, rfl, _, _, rfl, _, _, rfl, _, _, rfl, rfl, ?_⟩
  refine ⟨_, rfl, _, _, _, _, true, rfl, .ty _, ty_tup hS, kit_tt, true, rfl, iteF ⟨_, rfl, _, _, _, _, true, rfl, .ty _, ty_tup kS, kit_tt, true, rfl, iteF ⟨_, rfl, _, _, _, _, true, rfl, .ty _, ty_tup rS, kit_tt, true, rfl, iteF ?_⟩⟩⟩
  refine ⟨_, rfl, ra, rx, rfl, .inr rS, _, rfl, ka, kx, rfl, .inr kS, _, rfl, _, _, rfl, rfl, _, _, rfl, rfl, rfl, _, rfl, ?_⟩
  have elen : V.int (rx.length : Int) = V.int ((kx.length : Int) - (d : Int) - 1) := by rw [show (rx.length : Int) = (kx.length : Int) - (d : Int) - 1 by omega]
  rw [decide_eq_true elen]
  refine iteF ⟨_, rfl, ka, kx, rfl, .inr kS, fun l hl => ?_⟩
  have s0 := same_upd (o := .lst kx) hl
  refine ⟨_, rfl, _, kn, rfl, hk.keep s0, hl9, hsm, fun H1 v1 e1 q1 => ?_⟩
  rw [hso] at q1
  obtain ⟨b, ys, rfl, bS, bP⟩ := q1
  refine ⟨.list (kn.map rD), .list (kn.map rD), .lst (SqL.of (e1 _ _ upd_same)) (rDs_dp (rtl_keep kP (s0.trans e1))), .lst bS (rDs_dp bP), rDl_shaped _, rDl_shaped _, _, rfl, ?_⟩
  rw [rL_eqv, decide_eq_true rfl]
  have s1 := s0.trans e1
  have kS1 := seqT_keep s1 kS
  have kP1 := rtl_keep kP s1
  have i0 : 0 < kn.length := by omega
  have i1 : d < kn.length := by omega
  have i2 : kn.length - 1 < kn.length := by omega
  have i3 : kn.length - 1 - d < kn.length := by omega
  obtain ⟨y0, hy0, r0⟩ := pr_get kP1 (at_getD i0)
  obtain ⟨y1, hy1, r1⟩ := pr_get kP1 (at_getD i1)
  obtain ⟨y2, hy2, r2⟩ := pr_get kP1 (at_getD i2)
  obtain ⟨y3, hy3, r3⟩ := pr_get kP1 (at_getD i3)
  refine iteF ⟨_, rfl, ka, kx, 0, y0, rfl, rfl, kS1, at_of (j := 0) rfl hy0, _, rfl, _, rfl, ka, kx, _, y1, rfl, rfl, kS1, at_of (j := d) rfl hy1, _, _, rD_dp r0, rD_dp r1, rD_shaped _, rD_shaped _, _, rfl, ?_⟩
  rw [rD_eqv, decide_eq_true hf]
  refine iteT ⟨_, rfl, _, rfl, ka, kx, _, y2, rfl, rfl, kS1, atI_neg (j := 1) (by omega) (by omega) rfl (by rw [hkl]; exact hy2), _, rfl, _, rfl, ka, kx, rfl, .inr kS1, _, _, rfl, rfl, _, rfl, _, _, rfl, rfl, ka, kx, _, y3, rfl, rfl, kS1, at_of (j := kn.length - 1 - d) (by omega) hy3, _, _, rD_dp r2, rD_dp r3, rD_shaped _, rD_shaped _, ?_⟩
  rw [rD_eqv, decide_eq_true hla]
  exact hQ _ s1
/-- times, the first one as it stands -/
def spTimesRaw (K : PySem.W.Frag) : Sp := fun vs H Q _ => ∃ (t : Addr) (v : V) (s m : Nat) (b : Rat), vs = [.ref t, v] ∧ SqT K H t [.int (s : Int), .int (m : Int)] ∧ 0 < m ∧ m < 1000 ∧ s < 1000 ∧ Rt K H v b ∧ Sm b ∧ WR K H Q ((s : Rat) / (m : Rat) * b)
theorem ok_l_timesRaw (T : Top K mg) : Has P w K mg base 2 "_law_times" ["_law_one", "_law_other"] (spTimesRaw K) := by
  refine mk_has T.d_l_times sc_l_times (fun _ _ _ _ _ _ us hl => match us, hl with | [_, _], _ => rfl) (fun vs H Q E h => by obtain ⟨t, v, s, m, b, rfl, _⟩ := h; rfl) (fun f cdv A outer s H vs Q E hr h => ?_)
  obtain ⟨t, v, s', m, b, rfl, hp, hm, hm2, hs2, ⟨q, rfl, hq⟩, sb, hQ⟩ := h
  refine ⟨_, pss_one (ps_ret (pf (ok_l_made T) hr (pa_cons (pe_op op_mulX (ix 0) (ix 1)) (pa_cons (pe_op op_mulX (ix 0) (ix 1)) pa_nil)))), ?_⟩
  refine ⟨_, rfl, t, _, 0, _, rfl, rfl, hp, atI_nat (j := 0) rfl, _, rfl, q, _, 0, _, rfl, rfl, hq, rv_0 b, _, _, rfl, rfl, mulx_ok (a := 10) (b := 100000) (by omega) sb.2 (by decide),
    _, rfl, t, _, 1, _, rfl, rfl, hp, atI_nat (j := 1) rfl, _, rfl, q, _, 1, _, rfl, rfl, hq, rv_1 b, _, _, rfl, rfl, mulx_ok (a := 10) (b := 2400) (by omega) (by rw [Int.natAbs_natCast]; exact sb.1) (by decide), _, _, rfl, ?_, ?_, ?_⟩
  · exact Int.mul_pos (by omega) (by have := b.den_pos; omega)
  · have := wide_lt (i := (m : Int)) (j := (b.den : Int)) (a := 10) (b := 2400) (by omega) (by rw [Int.natAbs_natCast]; exact sb.1)
    exact Nat.lt_of_lt_of_le this (Nat.pow_le_pow_right (by decide) (by decide))
  · rw [q_raw _ _ _ hm]; exact hQ
def spMidRaw (K : PySem.W.Frag) : Sp := fun vs H Q _ => ∃ (u v : V) (t : Addr) (a b : Rat) (s m : Nat), vs = [u, v, .ref t] ∧ Rt K H u a ∧ Rt K H v b ∧ SqT K H t [.int (s : Int), .int (m : Int)] ∧ 0 < m ∧ m < 1000 ∧ s < 1000 ∧ Sm a ∧ Sm b ∧ Sm (b - a) ∧ Sm ((s : Rat) / (m : Rat) * (b - a)) ∧ WR K H Q (a + (s : Rat) / (m : Rat) * (b - a))
theorem ok_l_midRaw (T : Top K mg) : Has P w K mg base 3 "_law_middle" ["_law_one", "_law_other", "_law_part"] (spMidRaw K) := by
  refine mk_has T.d_l_middle sc_l_middle (fun _ _ _ _ _ _ us hl => match us, hl with | [_, _, _], _ => rfl) (fun vs H Q E h => by obtain ⟨u, v, t, a, b, s, m, rfl, _⟩ := h; rfl) (fun f cdv A outer s H vs Q E hr h => ?_)
  obtain ⟨u, v, t, a, b, s', m, rfl, hp, hq, hx, hm, hm2, hs2, sa, sb, s1, s2, hQ⟩ := h
  refine ⟨_, pss_one (ps_ret (pf (ok_l_plus T) hr (pa_cons (pv 0) (pa_cons (pf (ok_l_timesRaw T) hr (pa_cons (pv 2) (pa_cons (pf (ok_l_minus T) hr (pa_cons (pv 1) (pa_cons (pv 0) pa_nil))) pa_nil))) pa_nil)))), ?_⟩
  refine ⟨_, rfl, _, rfl, _, rfl, _, rfl, _, _, b, a, rfl, hq, hp, sb, sa, fun H1 v1 e1 r1 => ?_⟩
  refine ⟨_, _, _, _, b - a, rfl, seqT_keep e1 hx, hm, hm2, hs2, r1, s1, fun H2 v2 e2 r2 => ?_⟩
  exact ⟨_, _, a, _, rfl, hp.keep (e1.trans e2), r2, sa, s2, fun H3 v3 e3 r3 => hQ H3 v3 ((e1.trans e2).trans e3) r3⟩
end
end Bc
end
section
set_option Elab.async false
set_option linter.all false
set_option maxRecDepth 100000
set_option maxHeartbeats 4000000
set_option exponentiation.threshold 200000
namespace Bc
open PySem PySem.Spec PyProof.Rows L2
/-- the places between two knots that are asked -/
def plcs (kn kn2 : List Rat) : List Rat := onceL [] (sortL [] (kn ++ kn2))
def plx (l : List Rat) (i s m : Nat) : Rat := l.getD i 0 + (s : Rat) / (m : Rat) * (l.getD (i + 1) 0 - l.getD i 0)
structure PlOk (d : Nat) (kn c kn2 c2 : List Rat) (a b : Rat) (s m : Nat) (x : Rat) : Prop where
  sa : Sm a
  sb : Sm b
  sd : Sm (b - a)
  sp : Sm ((s : Rat) / (m : Rat) * (b - a))
  sx : Sm x
  n1 : x ≠ kn.getD (kn.length - 1) 0
  n2 : x ≠ kn2.getD (kn2.length - 1) 0
  v1 : ValOk (tk kn) (tk c) d x c.length
  v2 : ValOk (tk kn2) (tk c2) d x c2.length
  eq : lval (tk kn) (tk c) d x c.length = lval (tk kn2) (tk c2) d x c2.length
structure SameOk (d : Nat) (kn c kn2 c2 : List Rat) : Prop where
  d4 : d ≤ 4
  l1 : kn.length ≤ 100
  l2 : kn2.length ≤ 100
  k1 : c.length + d + 1 = kn.length
  k2 : c2.length + d + 1 = kn2.length
  p1 : 0 < c.length
  p2 : 0 < c2.length
  s1 : ∀ a ∈ kn, Sm a
  s2 : ∀ a ∈ kn2, Sm a
  lo : kn.getD 0 0 = kn2.getD 0 0
  hi : kn.getD (kn.length - 1) 0 = kn2.getD (kn2.length - 1) 0
  la : c.getD (c.length - 1) 0 = c2.getD (c2.length - 1) 0
  pl : ∀ i s, i + 1 < (plcs kn kn2).length → s < d + 1 → PlOk d kn c kn2 c2 ((plcs kn kn2).getD i 0) ((plcs kn kn2).getD (i + 1) 0) s (d + 1) (plx (plcs kn kn2) i s (d + 1))
section
variable {P : Program} {w : World} {K : PySem.W.Frag} {mg : Str → Option Value} {base : Heap}
def spSame (K : PySem.W.Frag) : Sp := fun vs H Q _ => ∃ (v u : V) (d : Nat) (kn c kn2 c2 : List Rat), vs = [v, u] ∧ SplV K H v d kn c ∧ SplV K H u d kn2 c2 ∧ SameOk d kn c kn2 c2 ∧ ∀ H', Same H H' → Q (.bl true) H'
theorem ok_l_same (T : Top K mg) : Has P w K mg base 11 "_law_same" ["_law_one", "_law_other"] (spSame K) := by
  refine mk_has T.d_l_same sc_l_same (fun _ _ _ _ _ _ us hl => match us, hl with | [_, _], _ => rfl) (fun vs H Q E h => by obtain ⟨v, u, d, kn, c, kn2, c2, rfl, _⟩ := h; rfl) (fun f cdv A outer s H vs Q E hr h => ?_)
  obtain ⟨v, u, d, kn, c, kn2, c2, rfl, hv, hu, ok, hQ⟩ := h
  refine ⟨_, pss_cons (ps_if (pt_cmpR (op_neD hr.units) (pe_tup (a2 (pe_ix ix_tup (pe_ix ix_tup (pv 0) pe_int (fun _ _ => rfl)) pe_int (fun _ _ => rfl)) (pe_ix ix_tup (pe_ix ix_tup (pv 0) pe_int (fun _ _ => rfl)) (pe_un un_neg pe_int) (fun _ _ => rfl))))
        (pe_tup (a2 (pe_ix ix_tup (pe_ix ix_tup (pv 1) pe_int (fun _ _ => rfl)) pe_int (fun _ _ => rfl)) (pe_ix ix_tup (pe_ix ix_tup (pv 1) pe_int (fun _ _ => rfl)) (pe_un un_neg pe_int) (fun _ _ => rfl)))) (nomark _)) pss_never pss_nil)
    (pss_cons (ps_set (i := 2) sc_l_same.nd rfl (.inl rfl) (pf (ok_l_once T) (hr.mono (by decide)) (a1 (pf (ok_l_sorted T) (hr.mono (by decide)) (a1 (pe_op op_catA (pe_ix ix_tup (pv 0) pe_int (fun _ _ => rfl)) (pe_ix ix_tup (pv 1) pe_int (fun _ _ => rfl))))))))
    (pss_cons (ps_for PassesOwn.never rfl (pi_range2 (by rfl) T.b_range (a2 pe_int (pe_callB call_len_seq (by rfl) T.b_len PySem.boot_len (a1 (pv 2))))) (pg_name (i := 3) sc_l_same.nd rfl (.inl rfl))
      (pss_cons (ps_set (i := 4) sc_l_same.nd rfl (.inl rfl) (pe_op op_add (pe_callB (call_max2 rfl) (by rfl) T.b_max (by decide +kernel) (a2 (pe_ix ix_tup (pv 0) pe_int (fun _ _ => rfl)) (pe_ix ix_tup (pv 1) pe_int (fun _ _ => rfl)))) pe_int))
      (pss_one (ps_for PassesOwn.never rfl (pi_range1 (by rfl) T.b_range (a1 (pv 4))) (pg_name (i := 5) sc_l_same.nd rfl (.inl rfl))
        (pss_cons (ps_set (i := 6) sc_l_same.nd rfl (.inl rfl) (pf (ok_l_midRaw T) (hr.mono (by decide)) (a3 (pe_ix ix_list (pv 2) (pe_op op_sub (pv 3) pe_int) (fun _ _ => rfl)) (pe_ix ix_list (pv 2) (pv 3) (fun _ _ => rfl)) (pe_tup (a2 (pv 5) (pv 4))))))
        (pss_one (ps_if (pt_cmpR (op_neD hr.units) (pf (ok_l_spline_at T) hr (a2 (pv 0) (pv 6))) (pf (ok_l_spline_at T) hr (a2 (pv 1) (pv 6))) (nomark _)) pss_never pss_nil)))))))
    (pss_one (ps_ret (pe_cmpR (op_eqD hr.units) (pe_ix ix_tup (pe_ix ix_tup (pv 0) pe_int (fun _ _ => rfl)) (pe_un un_neg pe_int) (fun _ _ => rfl)) (pe_ix ix_tup (pe_ix ix_tup (pv 1) pe_int (fun _ _ => rfl)) (pe_un un_neg pe_int) (fun _ _ => rfl)) (nomark _)))))), ?_⟩
  obtain ⟨a, kv, rw1, rfl, hS, hk, hc⟩ := id hv
  obtain ⟨b, kv2, rw2, rfl, hS2, hk2, hc2⟩ := id hu
  obtain ⟨ka, kx, rfl, kS, kP⟩ := id hk
  obtain ⟨kb, ky, rfl, kS2, kP2⟩ := id hk2
  obtain ⟨ra, rx, rfl, rS, rP⟩ := id hc
  obtain ⟨rb, ry, rfl, rS2, rP2⟩ := id hc2
  have hkl := Paired.length kP
  have hkl2 := Paired.length kP2
  have hrl := Paired.length rP
  have hrl2 := Paired.length rP2
  have o1 := ok.k1
  have o2 := ok.k2
  have o3 := ok.p1
  have o4 := ok.p2
  have o5 := ok.l1
  have o6 := ok.l2
  have o7 := ok.d4
  obtain ⟨y0, hy0, r0⟩ := pr_get kP (at_getD (show 0 < kn.length by omega))
  obtain ⟨y1, hy1, r1⟩ := pr_get kP (at_getD (show kn.length - 1 < kn.length by omega))
  obtain ⟨z0, hz0, q0⟩ := pr_get kP2 (at_getD (show 0 < kn2.length by omega))
  obtain ⟨z1, hz1, q1⟩ := pr_get kP2 (at_getD (show kn2.length - 1 < kn2.length by omega))
  refine ⟨_, rfl, a, _, 1, _, rfl, rfl, hS, atI_nat (j := 1) rfl, ka, kx, 0, y0, rfl, rfl, kS, at_of (j := 0) rfl hy0, _, rfl, a, _, 1, _, rfl, rfl, hS, atI_nat (j := 1) rfl, _, rfl, ka, kx, _, y1, rfl, rfl, kS, atI_neg (j := 1) (by omega) (by omega) rfl (by rw [hkl]; exact hy1), (by show 2 ≤ sizeLine; decide), fun p1 hp1 => ?_⟩
  have s1 := same_upd (o := .tup [y0, y1]) hp1
  refine ⟨_, rfl, b, _, 1, _, rfl, rfl, seqT_keep s1 hS2, atI_nat (j := 1) rfl, kb, ky, 0, z0, rfl, rfl, seqT_keep s1 kS2, at_of (j := 0) rfl hz0, _, rfl, b, _, 1, _, rfl, rfl, seqT_keep s1 hS2, atI_nat (j := 1) rfl, _, rfl, kb, ky, _, z1, rfl, rfl, seqT_keep s1 kS2, atI_neg (j := 1) (by omega) (by omega) rfl (by rw [hkl2]; exact hz1), (by show 2 ≤ sizeLine; decide), fun p2 hp2 => ?_⟩
  have s2 := s1.trans (same_upd (o := .tup [z0, z1]) hp2)
  have e1 : Pol K _ (.ref p1) [kn.getD 0 0, kn.getD (kn.length - 1) 0] := ⟨p1, _, rfl, SqT.of (same_upd (o := .tup [z0, z1]) hp2 _ _ upd_same), .cons (r0.keep s2) (.cons (r1.keep s2) .nil)⟩
  have e2 : Pol K _ (.ref p2) [kn2.getD 0 0, kn2.getD (kn2.length - 1) 0] := ⟨p2, _, rfl, SqT.of upd_same, .cons (q0.keep s2) (.cons (q1.keep s2) .nil)⟩
  refine ⟨_, _, pol_dp e1, pol_dp e2, rDs_shaped _, rDs_shaped _, _, rfl, ?_⟩
  rw [rT_eqv, decide_eq_true (show [kn.getD 0 0, kn.getD (kn.length - 1) 0] = [kn2.getD 0 0, kn2.getD (kn2.length - 1) 0] by rw [ok.lo, ok.hi])]
  generalize upd (upd H p1 (.tup [y0, y1])) p2 (.tup [z0, z1]) = H1 at s2 ⊢
  refine iteF ⟨_, rfl, a, _, 1, _, rfl, rfl, seqT_keep s2 hS, atI_nat (j := 1) rfl, _, rfl, b, _, 1, _, rfl, rfl, seqT_keep s2 hS2, atI_nat (j := 1) rfl, ?_⟩
  refine cat_any (seqT_keep s2 kS) (seqT_keep s2 kS2) (sz2 (by omega)) (fun H2 pc t2 hpc => ?_)
  have s3 := s2.trans t2
  refine ⟨_, kn ++ kn2, rfl, ⟨pc, _, rfl, hpc, pr_append (rtl_keep kP s3) (rtl_keep kP2 s3)⟩, by rw [List.length_append]; omega, fun x hx => (List.mem_append.mp hx).elim (ok.s1 x) (ok.s2 x), fun H3 v3 t3 q3 => ?_⟩
  have hsl := sortL_len (kn ++ kn2) []
  rw [List.length_append, List.length_nil] at hsl
  refine ⟨_, _, rfl, q3, by omega, fun H4 v4 t4 q4 => ?_⟩
  have hol := onceL_len (sortL [] (kn ++ kn2)) []
  have q4' : Lis K H4 v4 (plcs kn kn2) := q4
  have hpll : (plcs kn kn2).length ≤ 200 := by unfold plcs; simp at hol; omega
  obtain ⟨L, ls, rfl, lS, lP⟩ := q4'
  have s4 := (s3.trans t3).trans t4
  have hll := Paired.length lP
  refine ⟨_, rfl, L, ls, rfl, .inl lS, 1, _, rfl, ⟨by omega, by omega, by omega, by omega⟩, ?_⟩
  refine for_range (n := ((ls.length : Int) - 1).toNat) (fun i σ H5 => ∃ o3 o4 o5 o6, σ = [some (.ref a), some (.ref b), some (.ref L), o3, o4, o5, o6] ∧ Same H4 H5) ⟨_, _, _, _, rfl, Same.refl _⟩ (fun i σ H5 hi hI => ?_) (fun σ H5 hI => ?_)
  · obtain ⟨o3, o4, o5, o6, rfl, s5⟩ := hI
    have s45 := s4.trans s5
    have hi1 : i + 1 < (plcs kn kn2).length := by omega
    refine ⟨_, rfl, a, _, 0, _, rfl, rfl, seqT_keep s45 hS, atI_nat (j := 0) rfl, _, rfl, b, _, 0, _, rfl, rfl, seqT_keep s45 hS2, atI_nat (j := 0) rfl, _, _, rfl, ?_⟩
    rw [show (if (d : Int) > (d : Int) then (d : Int) else (d : Int)) = (d : Int) from ite_self _]
    refine ⟨_, _, rfl, rfl, _, rfl, _, rfl, by omega, by omega, ?_⟩
    refine for_range (n := ((d : Int) + 1).toNat) (fun j σ H6 => ∃ o5 o6, σ = [some (.ref a), some (.ref b), some (.ref L), some (.int (1 + (i : Int))), some (.int ((d : Int) + 1)), o5, o6] ∧ Same H4 H6) ⟨_, _, rfl, s5⟩ (fun j σ H6 hj hI => ?_) (fun σ H6 hI => ?_)
    · obtain ⟨o5, o6, rfl, s6⟩ := hI
      have s46 := s4.trans s6
      have pk := ok.pl i j hi1 (by omega)
      obtain ⟨za, hza, ra'⟩ := pr_get (rtl_keep lP s6) (at_getD (show i < (plcs kn kn2).length by omega))
      obtain ⟨zb, hzb, rb'⟩ := pr_get (rtl_keep lP s6) (at_getD hi1)
      have lS6 := s6.seq lS
      refine ⟨_, rfl, _, rfl, _, _, rfl, rfl, L, ls, _, za, rfl, rfl, lS6, at_of (j := i) (by omega) hza, _, rfl, _, rfl, L, ls, _, zb, rfl, rfl, lS6, at_of (j := i + 1) (by omega) hzb, _, rfl, _, rfl, (by show 2 ≤ sizeLine; decide), fun t ht => ?_⟩
      have st := same_upd (o := .tup [.int (0 + (j : Int)), .int ((d : Int) + 1)]) ht
      refine ⟨_, _, t, _, _, j, d + 1, rfl, ra'.keep st, rb'.keep st, SqT.of (by rw [upd_same, Int.zero_add]; rfl), by omega, by omega, by omega, pk.sa, pk.sb, pk.sd, pk.sp, fun H7 v7 e7 q7 => ?_⟩
      have s47 := (s46.trans st).trans e7
      refine ⟨_, rfl, _, rfl, _, _, d, kn, c, plx (plcs kn kn2) i j (d + 1), rfl, hv.keep s47, o7, by omega, o1, q7, pk.sx, pk.n1, pk.v1, fun H8 v8 e8 q8 => ?_⟩
      refine ⟨_, rfl, _, rfl, _, _, d, kn2, c2, plx (plcs kn kn2) i j (d + 1), rfl, hu.keep (s47.trans e8), o7, by omega, o2, q7.keep e8, pk.sx, pk.n2, pk.v2, fun H9 v9 e9 q9 => ?_⟩
      refine ⟨_, _, rD_dp (q8.keep e9), rD_dp q9, rD_shaped _, rD_shaped _, _, rfl, ?_⟩
      rw [rD_eqv, decide_eq_true pk.eq]
      exact iteF ⟨_, _, rfl, (((s6.trans st).trans e7).trans e8).trans e9⟩
    · obtain ⟨o5, o6, rfl, s6⟩ := hI
      exact ⟨_, _, _, _, rfl, s6⟩
  · obtain ⟨o3, o4, o5, o6, rfl, s5⟩ := hI
    have s45 := s4.trans s5
    obtain ⟨y2, hy2, r2⟩ := pr_get (rtl_keep rP s45) (at_getD (show c.length - 1 < c.length by omega))
    obtain ⟨z2, hz2, q2⟩ := pr_get (rtl_keep rP2 s45) (at_getD (show c2.length - 1 < c2.length by omega))
    refine ⟨_, rfl, a, _, 2, _, rfl, rfl, seqT_keep s45 hS, atI_nat (j := 2) rfl, _, rfl, ra, rx, _, y2, rfl, rfl, seqT_keep s45 rS, atI_neg (j := 1) (by omega) (by omega) rfl (by rw [hrl]; exact hy2), _, rfl, b, _, 2, _, rfl, rfl, seqT_keep s45 hS2, atI_nat (j := 2) rfl, _, rfl, rb, ry, _, z2, rfl, rfl, seqT_keep s45 rS2, atI_neg (j := 1) (by omega) (by omega) rfl (by rw [hrl2]; exact hz2), _, _, rD_dp r2, rD_dp q2, rD_shaped _, rD_shaped _, ?_⟩
    rw [rD_eqv, decide_eq_true ok.la]
    exact hQ _ s45
end
end Bc
end
section
set_option Elab.async false
set_option linter.all false
set_option maxRecDepth 100000
set_option maxHeartbeats 4000000
set_option exponentiation.threshold 200000
namespace Bc
open PySem PySem.Spec PyProof.Rows L2
/-- the polynomials to the left and to the right of a place -/
def leftP (x : Rat) : List Rat → List Pc → List Rat
  | acc, [] => acc
  | acc, p :: ps => leftP x (if p.1 < x then p.2.2 else acc) ps
def rightP (x : Rat) : List Rat → List Pc → List Rat
  | acc, [] => acc
  | acc, p :: ps => rightP x (if ¬ x < p.1 then p.2.2 else acc) ps
theorem leftP_take (x : Rat) : ∀ (ps : List Pc) (acc : List Rat) (i : Nat) (p : Pc), ps[i]? = some p → leftP x acc (ps.take (i + 1)) = if p.1 < x then p.2.2 else leftP x acc (ps.take i)
  | [], _, _, _, h => by simp at h
  | a :: ps, acc, 0, p, h => by simp at h; subst h; rfl
  | a :: ps, acc, i + 1, p, h => leftP_take x ps _ i p (by simpa using h)
theorem rightP_take (x : Rat) : ∀ (ps : List Pc) (acc : List Rat) (i : Nat) (p : Pc), ps[i]? = some p → rightP x acc (ps.take (i + 1)) = if ¬ x < p.1 then p.2.2 else rightP x acc (ps.take i)
  | [], _, _, _, h => by simp at h
  | a :: ps, acc, 0, p, h => by simp at h; subst h; rfl
  | a :: ps, acc, i + 1, p, h => rightP_take x ps _ i p (by simpa using h)
/-- the law's own order -/
def sameO (x : Rat) (l r : List Rat) (o : Nat) : Prop := hor x 0 (slopes o l).reverse = hor x 0 (slopes o r).reverse
instance (x : Rat) (l r : List Rat) (o : Nat) : Decidable (sameO x l r o) := inferInstanceAs (Decidable (_ = _))
def dueN (x : Rat) (l r : List Rat) : Nat → Int
  | 0 => -1
  | o + 1 => if sameO x l r o ∧ dueN x l r o = (o : Int) - 1 then (o : Int) else dueN x l r o
structure SlOk (x : Rat) (o : Nat) (p : List Rat) : Prop where
  len : p.length ≤ 1000
  sm : ∀ k, k < o → ∀ a ∈ slopes k p, Sm a
  ho : horOk x 0 (slopes o p).reverse
structure FitOk (d : Nat) (kn c : List Rat) : Prop where
  d4 : d ≤ 4
  l9 : kn.length ≤ 900
  len : c.length + d + 1 = kn.length
  sm : ∀ a ∈ kn, Sm a
  so : sortL [] kn = kn
  fi : kn.getD 0 0 = kn.getD d 0
  la : kn.getD (kn.length - 1) 0 = kn.getD (kn.length - 1 - d) 0
/-- what the end of the law asks -/
structure LawOk (d : Nat) (kn c : List Rat) (x : Rat) : Prop where
  sx : Sm x
  lo : kn.getD 0 0 < x
  hi : x < kn.getD (kn.length - 1) 0
  so : SOk d kn c
  pk : pcsOk kn c d
  sm : smOk x d (pieces kn c d)
  sp : ∀ p ∈ pieces kn c d, Sm p.1
  sl : ∀ o, o < d + 1 → SlOk x o (leftP x [] (pieces kn c d)) ∧ SlOk x o (rightP x [] (pieces kn c d))
  du : dueN x (leftP x [] (pieces kn c d)) (rightP x [] (pieces kn c d)) (d + 1) = smAt x d (pieces kn c d)
  nk : x ∉ kn → smAt x d (pieces kn c d) = d
  rm : x ∈ kn → ¬ smAt x d (pieces kn c d) ≤ (d : Int) - (cnt kn x : Int) → RowOk (pieces kn c d) d (kless kn x) ∧ FitOk d (kless kn x) (rowFrom (pieces kn c d) d (kless kn x)) ∧ SameOk d (kless kn x) (rowFrom (pieces kn c d) d (kless kn x)) kn c
/-- what is told of the splines on the way -/
structure Way (S : Nat → Nat → List Rat → List Rat → Prop) : Prop where
  s0 : ∀ d kn c, KnG d kn → c.length + d + 1 = kn.length → (∀ x ∈ c, Dq x) → S 0 d kn c
  sk : ∀ n d kn c, S n d kn c → KnG d kn
  su : ∀ n d kn c, S n d kn c → S (n + 1) d kn c
  ins : ∀ n d kn c x, n < 2 → S n d kn c → Gr 144 3024 x → kn.getD 0 0 < x → x < kn.getD (kn.length - 1) 0 → cnt kn x ≤ d → kn.length < 16 → SOk d kn c ∧ WkOk d kn c x ∧ S (n + 1) d (wkKn kn x) (wkRow d kn c x)
  law : ∀ d kn c x, S 2 d kn c → Gr 720 15120 x → kn.getD 0 0 < x → x < kn.getD (kn.length - 1) 0 → LawOk d kn c x
theorem Gr.up720 {x : Rat} (h : Gr 144 3024 x) : Gr 720 15120 x := by
  obtain ⟨n, rfl, h⟩ := h
  exact ⟨n * 5, by rw [Rat.intCast_mul]; grind, by omega⟩
theorem rv_25 : rv (2 / 5 : Rat) = [.int 2, .int 5] := by decide +kernel
theorem Gr.mid5 {a b : Rat} (ha : Gr 12 252 a) (hb : Gr 12 252 b) (hab : a < b) : Gr 720 15120 (a + 2 / 5 * (b - a)) ∧ a < a + 2 / 5 * (b - a) ∧ a + 2 / 5 * (b - a) < b := by
  obtain ⟨n, rfl, hn⟩ := ha
  obtain ⟨m, rfl, hm⟩ := hb
  refine ⟨⟨36 * n + 24 * m, ?_, by omega⟩, by grind, by grind⟩
  rw [Rat.intCast_add, Rat.intCast_mul, Rat.intCast_mul]
  grind
theorem kn_lt {d : Nat} {kn : List Rat} (h : KnG d kn) : kn.getD 0 0 < kn.getD (kn.length - 1) 0 := by
  have h1 := h.len2
  have h2 := h.mu 0 (by omega)
  have h3 := h.so (0 + d + 1) (kn.length - 1) (by omega) (by omega)
  grind
section
variable {P : Program} {w : World} {K : PySem.W.Frag} {mg : Str → Option Value} {base : Heap}
def spLaw (K : PySem.W.Frag) : Sp := fun vs H Q _ => ∃ (sc : Addr) (ns : List Int), vs = [.ref sc] ∧ Scr K H sc ns ∧ ∀ H', Q (.bl true) H'
theorem law_body (T : Top K mg) {S : Nat → Nat → List Rat → List Rat → Prop} (Wy : Way S) (f : Addr) (cdv : Value) (A : Around) (outer : List Env) (s : Shared) (H : Hp) (vs : List V) (Q : VK) (E : XK) (hr : Room 11 (A.deeper (envOfC "law" (defScope s_law) s.heap.objs.size f cdv))) (h : spLaw K vs H Q E) :
    ∃ t, PSs (cxOf CX0 P w K mg base n_law "law" (defScope s_law) f cdv A outer s H E).nox (defBody s_law) t ∧ t { nx := fun _ H' => Q .non H', rt := Q } (start n_law vs) H := by
  obtain ⟨sc, ns, rfl, hsc, hQ⟩ := h
  have hu : A.units + 3 + 65 < cLine := by have := hr.un; show A.units + 3 + 65 < cLine; have e : (A.deeper (envOfC "law" (defScope s_law) s.heap.objs.size f cdv)).units = A.units + 3 := rfl; omega
  refine ⟨_, pss_cons (ps_set (i := 1) sc_law.nd rfl (.inl rfl) (pe_lst (pa_cons (pv 0) (a3 pe_int pe_int pe_int))))
    (pss_cons (ps_set (i := 2) sc_law.nd rfl (.inl rfl) (pf (ok_l_spline T) (hr.mono (by decide)) (a2 (pv 1) pe_int)))
    (pss_cons (ps_for PassesOwn.never rfl (pi_range1 (by rfl) T.b_range (a1 pe_int)) (pg_name (i := 3) sc_law.nd rfl (.inl rfl))
      (pss_cons (ps_set (i := 4) sc_law.nd rfl (.inl rfl) (pf (ok_l_within T) (hr.mono (by decide)) (a2 (pv 1) (pv 2))))
      (pss_cons (ps_set (i := 5) sc_law.nd rfl (.inl rfl) (pe_lst (a2 (pe_ix ix_tup (pe_ix ix_tup (pv 2) pe_int (fun _ _ => rfl)) pe_int (fun _ _ => rfl)) (pe_ix ix_tup (pe_ix ix_tup (pv 2) pe_int (fun _ _ => rfl)) (pe_un un_neg pe_int) (fun _ _ => rfl)))))
      (pss_one (ps_if (PW.pt (pw_and (pt_cmpR (op_notInD hu) (pv 4) (pv 5) (by rfl)) (pw_and (pt_cmpR op_le (pe_bmT PySem.F.slot_tuple_count PySem.F.type_tuple_count (mt_countT hu) (pe_ix ix_tup (pv 2) pe_int (fun _ _ => rfl)) (a1 (pv 4))) (pe_ix ix_tup (pv 2) pe_int (fun _ _ => rfl)) (nomark _)) (pw_and1 (pt_cmpR op_lt (pe_callB call_len_seq (by rfl) T.b_len PySem.boot_len (a1 (pe_ix ix_tup (pv 2) pe_int (fun _ _ => rfl)))) pe_int (nomark _))))))
        (pss_one (ps_set (i := 2) sc_law.nd rfl (.inl rfl) (pe_ifExp (pt_cmpR op_eq (pf (ok_l_taken T) (hr.mono (by decide)) (a2 (pv 1) pe_int)) pe_int (nomark _)) (pf (ok_inserted T) (hr.mono (by decide)) (a2 (pv 2) (pv 4))) (pv 2)))) pss_nil)))))
    (pss_cons (ps_asg (pv 2) (pg_tup rfl (pgs_cons (pg_name (i := 6) sc_law.nd rfl (.inl rfl)) (pgs_cons (pg_name (i := 7) sc_law.nd rfl (.inl rfl)) (pgs_cons (pg_name (i := 8) sc_law.nd rfl (.inl rfl)) pgs_nil)))))
    (pss_cons (ps_set (i := 4) sc_law.nd rfl (.inl rfl) (pf (ok_l_within T) (hr.mono (by decide)) (a2 (pv 1) (pv 2))))
    (pss_cons (ps_if (pt_cmpR (op_inD hu) (pv 4) (pe_lst (a2 (pe_ix ix_tup (pv 7) pe_int (fun _ _ => rfl)) (pe_ix ix_tup (pv 7) (pe_un un_neg pe_int) (fun _ _ => rfl)))) (by rfl)) (pss_one (ps_set (i := 4) sc_law.nd rfl (.inl rfl) (pf (ok_l_middle T) (hr.mono (by decide)) (a3 (pe_ix ix_tup (pv 7) pe_int (fun _ _ => rfl)) (pe_ix ix_tup (pv 7) (pe_un un_neg pe_int) (fun _ _ => rfl)) (pe_tup (a2 pe_int pe_int)))))) pss_nil)
    (pss_cons (ps_asg (pe_tup (a2 (pe_tup pa_nil) (pe_tup pa_nil))) (pg_tup rfl (pgs_cons (pg_name (i := 9) sc_law.nd rfl (.inl rfl)) (pgs_cons (pg_name (i := 10) sc_law.nd rfl (.inl rfl)) pgs_nil))))
    (pss_cons (ps_for PassesOwn.never rfl (pi_tup (pf (ok_spline_pieces T) hr (a1 (pv 2)))) (pg_tup rfl (pgs_cons (pg_name (i := 11) sc_law.nd rfl (.inl rfl)) (pgs_cons (pg_name (i := 12) sc_law.nd rfl (.inl rfl)) pgs_nil)))
      (pss_cons (ps_set (i := 9) sc_law.nd rfl (.inl rfl) (pe_ifExp (pt_val (pf (ok_l_below T) (hr.mono (by decide)) (a2 (pe_ix ix_tup (pv 11) pe_int (fun _ _ => rfl)) (pv 4)))) (pv 12) (pv 9)))
      (pss_one (ps_set (i := 10) sc_law.nd rfl (.inl rfl) (pe_ifExp (pt_not (pt_val (pf (ok_l_below T) (hr.mono (by decide)) (a2 (pv 4) (pe_ix ix_tup (pv 11) pe_int (fun _ _ => rfl)))))) (pv 12) (pv 10))))))
    (pss_cons (ps_set (i := 13) sc_law.nd rfl (.inl rfl) (pe_un un_neg pe_int))
    (pss_cons (ps_for PassesOwn.never rfl (pi_range1 (by rfl) T.b_range (a1 (pe_op op_add (pv 6) pe_int))) (pg_name (i := 14) sc_law.nd rfl (.inl rfl))
      (pss_cons (ps_set (i := 15) sc_law.nd rfl (.inl rfl) (pe_cmpR (op_eqD hr.units) (pf (ok_l_at T) (hr.mono (by decide)) (a2 (pf (ok_l_slopes T) (hr.mono (by decide)) (a2 (pv 9) (pv 14))) (pv 4))) (pf (ok_l_at T) (hr.mono (by decide)) (a2 (pf (ok_l_slopes T) (hr.mono (by decide)) (a2 (pv 10) (pv 14))) (pv 4))) (nomark _)))
      (pss_one (ps_set (i := 13) sc_law.nd rfl (.inl rfl) (pe_ifExp (PW.pt (pw_and (pt_val (pv 15)) (pw_and1 (pt_cmpR op_eq (pv 13) (pe_op op_sub (pv 14) pe_int) (nomark _))))) (pv 14) (pv 13))))))
    (pss_cons (ps_if (pt_not (pt_val (pf (ok_l_alike T) (hr.mono (by decide)) (a2 (pf (ok_smoothness T) hr (a2 (pv 2) (pv 4))) (pv 13))))) pss_never pss_nil)
    (pss_cons (ps_if (pt_cmpR (op_notInT hu) (pv 4) (pv 7) (by rfl)) (pss_one (ps_ret (pe_cmpR op_eq (pv 13) (pv 6) (nomark _)))) pss_nil)
    (pss_cons (ps_set (i := 16) sc_law.nd rfl (.inl rfl) (pf (ok_removed T) hr (a2 (pv 2) (pv 4))))
    (pss_cons (ps_if (pt_cmpR op_ne (pe_cmpR op_isN (pv 16) pe_non (nomark _)) (pe_cmpR op_le (pv 13) (pe_op op_sub (pv 6) (pe_bmT PySem.F.slot_tuple_count PySem.F.type_tuple_count (mt_countT hu) (pv 7) (a1 (pv 4)))) (nomark _)) (nomark _)) pss_never pss_nil)
    (pss_cons (ps_if (pt_cmpR op_isN (pv 16) pe_non (nomark _)) (pss_one (ps_ret pe_bl)) pss_nil)
    (pss_cons (ps_set (i := 17) sc_law.nd rfl (.inl rfl) (pe_bmT PySem.F.slot_tuple_index PySem.F.type_tuple_index (mt_indexT hu) (pv 7) (a1 (pv 4))))
    (pss_one (ps_ret (pe_and (pf (ok_l_fits T) (hr.mono (by decide)) (a1 (pv 16))) (pe_and (pe_cmpR (op_eqD hr.units) (pe_ix ix_tup (pv 16) pe_int (fun _ _ => rfl)) (pe_op op_catA (pe_slice sl_tupA (pv 7) po_none (po_some (pv 17))) (pe_slice sl_tupA (pv 7) (po_some (pe_op op_add (pv 17) pe_int)) po_none)) (nomark _)) (pe_one (pf (ok_l_same T) hr (a2 (pv 16) (pv 2))))))))))))))))))))))), ?_⟩
  refine ⟨_, rfl, (by show 4 ≤ sizeLine; decide), fun r hr' => ?_⟩
  have row0 : Row K (upd H r (.lst [.ref sc, .int 0, .int 4132, .int 0])) r := ⟨sc, ns, 0, 4132, 0, upd_same, by decide, by decide, by decide, hsc.keep (same_upd hr')⟩
  refine ⟨_, rfl, r, rfl, row0, fun H1 v d kn c e1 r1 hs hk hlen hdq => ?_⟩
  refine ⟨2, rfl, by decide, by decide, ?_⟩
  refine for_range (n := (2 : Int).toNat) (fun i σ H2 => ∃ v d kn c o3 o4 o5, σ = [some (.ref sc), some (.ref r), some v, o3, o4, o5, none, none, none, none, none, none, none, none, none, none, none, none] ∧ Row K H2 r ∧ SplF K H2 v d kn c ∧ S i d kn c)
    ⟨v, d, kn, c, _, _, _, rfl, r1, hs, Wy.s0 d kn c hk hlen hdq⟩ (fun i σ H2 hi hI => ?_) (fun σ H2 hI => ?_)
  · obtain ⟨v, d, kn, c, o3, o4, o5, rfl, r2, hs, hSS⟩ := hI
    have hk := Wy.sk _ _ _ _ hSS
    refine ⟨_, rfl, _, rfl, r, v, d, kn, c, rfl, r2, hs, hk, fun H3 u x e3 r3 rx gx lo hi' => ?_⟩
    have hs3 := hs.keepR r2.at e3
    obtain ⟨a, kv, rw', rfl, hS, hkn, hc⟩ := id hs3
    obtain ⟨ka, ko, kx, rfl, kH, kd, kP⟩ := id hkn
    have kS : SqT K H3 ka kx := .inl (.inr ⟨ko, kH⟩)
    have hkl := Paired.length kP
    have l2 := hk.len2
    have l16 := hk.len16
    obtain ⟨y0, hy0, q0⟩ := pr_get kP (at_getD (show 0 < kn.length by omega))
    obtain ⟨y1, hy1, q1⟩ := pr_get kP (at_getD (show kn.length - 1 < kn.length by omega))
    refine ⟨_, rfl, a, _, 1, _, rfl, rfl, hS, atI_nat (j := 1) rfl, ka, kx, 0, y0, rfl, rfl, kS, at_of (j := 0) rfl hy0, _, rfl, a, _, 1, _, rfl, rfl, hS, atI_nat (j := 1) rfl, _, rfl, ka, kx, _, y1, rfl, rfl, kS, atI_neg (j := 1) (by omega) (by omega) rfl (by rw [hkl]; exact hy1), (by show 2 ≤ sizeLine; decide), fun L hL => ?_⟩
    have sL := same_upd (o := .lst [y0, y1]) hL
    have r4 := row_new (o := .lst [y0, y1]) r3 hL
    have dL : Dp K (upd H3 L (.lst [y0, y1])) (.ref L) (.list ([kn.getD 0 0, kn.getD (kn.length - 1) 0].map rD)) := .lst (SqL.of upd_same) (rDs_dp (.cons (q0.keep sL) (.cons (q1.keep sL) .nil)))
    generalize upd H3 L (.lst [y0, y1]) = H4 at sL r4 dL ⊢
    have hs4 := hs3.keep sL
    have rx4 := rx.keep sL
    have hS4 := seqT_keep sL hS
    have kS4 := seqT_keep sL kS
    have kH4 := sL _ _ kH
    have kP4 := rtl_keep kP sL
    refine ⟨_, rfl, _, rfl, rD x, _, rD_dp rx4, dL, rD_shaped _, rDl_shaped _, _, rfl, ?_⟩
    rw [any_rD]
    by_cases em : x ∈ [kn.getD 0 0, kn.getD (kn.length - 1) 0]
    · rw [decide_eq_true em]
      exact iteF ⟨_, d, kn, c, _, _, _, rfl, r4, hs4, Wy.su _ _ _ _ hSS⟩
    · rw [decide_eq_false em]
      have lo' : kn.getD 0 0 < x := by
        have : x ≠ kn.getD 0 0 := fun e => em (by rw [e]; exact List.mem_cons_self)
        grind
      have hi2 : x < kn.getD (kn.length - 1) 0 := by
        have : x ≠ kn.getD (kn.length - 1) 0 := fun e => em (List.mem_cons_of_mem _ (by rw [← e]; exact List.mem_cons_self))
        grind
      refine iteT ⟨_, rfl, a, _, 1, _, rfl, rfl, hS4, atI_nat (j := 1) rfl, ⟨ka, ko, kx, rfl, kH4, kd⟩, _, rfl, ka, u, rD x, kn.map rD, rfl, rfl, .tup kS4 (rDs_dp kP4), rD_dp rx4, rDs_shaped _, rD_shaped _, _, rfl, a, _, 0, _, rfl, rfl, hS4, atI_nat (j := 0) rfl, _, _, rfl, rfl, _, rfl, ?_⟩
      rw [cnt_rD]
      refine ite2 (fun ec => ?_) (fun ec => ⟨_, d, kn, c, _, _, _, rfl, r4, hs4, Wy.su _ _ _ _ hSS⟩)
      have ec' : cnt kn x ≤ d := by have := of_decide_eq_true ec; omega
      refine ⟨_, rfl, a, _, 1, _, rfl, rfl, hS4, atI_nat (j := 1) rfl, ka, kx, rfl, .inr kS4, _, _, rfl, rfl, _, rfl, ite2 (fun el => ?_) (fun el => ⟨_, d, kn, c, _, _, _, rfl, r4, hs4, Wy.su _ _ _ _ hSS⟩)⟩
      have el' : kn.length < 16 := by have := of_decide_eq_true el; omega
      refine ⟨_, rfl, r, 2, rfl, by decide, by decide, r4, fun H5 z e5 r5 hz => ⟨rfl, _, rfl, ite2 (fun _ => ?_) (fun _ => ⟨_, rfl, _, d, kn, c, _, _, _, rfl, r5, hs4.keepR r4.at e5, Wy.su _ _ _ _ hSS⟩)⟩⟩
      obtain ⟨w1, w2, w3⟩ := Wy.ins i d kn c x hi hSS gx lo' hi2 ec' el'
      exact ⟨_, rfl, _, rfl, _, u, d, kn, c, x, rfl, hs4.keepR r4.at e5, w1, rx4.keepR r4.at e5, lo', hi2, w2, ec', el', fun H6 v6 e6 q6 => ⟨v6, d, _, _, _, _, _, rfl, r5.keep e6, q6, w3⟩⟩
  · obtain ⟨v, d, kn, c, o3, o4, o5, rfl, r2, hs, hSS⟩ := hI
    have hk := Wy.sk _ _ _ _ hSS
    have l2 := hk.len2
    have l16 := hk.len16
    obtain ⟨a, kv, rw', rfl, hS, hkn, hc⟩ := id hs
    refine ⟨_, rfl, a, _, rfl, hS, rfl, _, _, rfl, _, _, rfl, _, _, rfl, rfl, ?_⟩
    refine ⟨_, rfl, _, rfl, r, .ref a, d, kn, c, rfl, r2, hs, hk, fun H3 u x e3 r3 rx gx lo hi' => ?_⟩
    have hs3 := hs.keepR r2.at e3
    obtain ⟨ka, ko, kx, rfl, kH, kd, kP⟩ := hkn.keepR r2.at e3
    have kS : SqT K H3 ka kx := .inl (.inr ⟨ko, kH⟩)
    have hkl := Paired.length kP
    obtain ⟨y0, hy0, q0⟩ := pr_get kP (at_getD (show 0 < kn.length by omega))
    obtain ⟨y1, hy1, q1⟩ := pr_get kP (at_getD (show kn.length - 1 < kn.length by omega))
    refine ⟨_, rfl, _, rfl, ka, kx, 0, y0, rfl, rfl, kS, at_of (j := 0) rfl hy0, _, rfl, _, rfl, ka, kx, _, y1, rfl, rfl, kS, atI_neg (j := 1) (by omega) (by omega) rfl (by rw [hkl]; exact hy1), (by show 2 ≤ sizeLine; decide), fun L hL => ?_⟩
    have sL := same_upd (o := .lst [y0, y1]) hL
    have dL : Dp K (upd H3 L (.lst [y0, y1])) (.ref L) (.list ([kn.getD 0 0, kn.getD (kn.length - 1) 0].map rD)) := .lst (SqL.of upd_same) (rDs_dp (.cons (q0.keep sL) (.cons (q1.keep sL) .nil)))
    generalize upd H3 L (.lst [y0, y1]) = H4 at sL dL ⊢
    have hs4 := hs3.keep sL
    have rx4 := rx.keep sL
    have kS4 := seqT_keep sL kS
    have kH4 := sL _ _ kH
    have kP4 := rtl_keep kP sL
    refine ⟨rD x, _, rD_dp rx4, dL, rD_shaped _, rDl_shaped _, _, rfl, ?_⟩
    rw [any_rD]
    apply join2 (C := fun (H8 : Hp) (u : V) => ∃ x, Same H4 H8 ∧ Rt K H8 u x ∧ Gr 720 15120 x ∧ kn.getD 0 0 < x ∧ x < kn.getD (kn.length - 1) 0)
    · intro fin
      by_cases em : x ∈ [kn.getD 0 0, kn.getD (kn.length - 1) 0]
      · rw [decide_eq_true em]
        refine iteT ⟨_, rfl, ka, kx, 0, y0, rfl, rfl, kS4, at_of (j := 0) rfl hy0, _, rfl, _, rfl, ka, kx, _, y1, rfl, rfl, kS4, atI_neg (j := 1) (by omega) (by omega) rfl (by rw [hkl]; exact hy1), (by show 2 ≤ sizeLine; decide), fun t ht => ?_⟩
        have st := same_upd (o := .tup [.int 2, .int 5]) ht
        have g0 := hk.ge.1
        have g1 := hk.ge.2
        have gd := g1.sub (by decide) g0
        have g5 : Gr 5 2 (2 / 5 : Rat) := ⟨2, by grind, by decide⟩
        obtain ⟨m1, m2, m3⟩ := Gr.mid5 g0 g1 (kn_lt hk)
        refine ⟨_, _, _, _, _, (2 / 5 : Rat), rfl, (q0.keep sL).keep st, (q1.keep sL).keep st, ⟨t, rfl, SqT.of (by rw [upd_same, rv_25])⟩, g0.sm (by decide) (by decide) (by decide), g1.sm (by decide) (by decide) (by decide), g5.sm (by decide) (by decide) (by decide), gd.sm (by decide) (by decide) (by decide), sm_gg g5 gd (by decide) (by decide) (by decide) (by decide) (by decide), fun H8 v8 e8 q8 => ?_⟩
        exact fin H8 v8 ⟨_, st.trans e8, q8, m1, m2, m3⟩
      · rw [decide_eq_false em]
        have lo' : kn.getD 0 0 < x := by
          have : x ≠ kn.getD 0 0 := fun e => em (by rw [e]; exact List.mem_cons_self)
          grind
        have hi2 : x < kn.getD (kn.length - 1) 0 := by
          have : x ≠ kn.getD (kn.length - 1) 0 := fun e => em (List.mem_cons_of_mem _ (by rw [← e]; exact List.mem_cons_self))
          grind
        exact iteF (fin H4 u ⟨x, Same.refl _, rx4, gx.up720, lo', hi2⟩)
    · rintro H5 u5 ⟨x5, s5, rx5, gx5, lo5, hi5⟩
      have LO := Wy.law d kn c x5 hSS gx5 lo5 hi5
      refine ⟨Nat.zero_le _, fun p1 hp1 => ⟨Nat.zero_le _, fun p2 hp2 => ⟨(by show 2 ≤ sizeLine; decide), fun p3 hp3 => ?_⟩⟩⟩
      have t3 := ((same_upd (o := .tup []) hp1).trans (same_upd (o := .tup []) hp2)).trans (same_upd (o := .tup [.ref p1, .ref p2]) hp3)
      have hp1' : Pol K (upd (upd (upd H5 p1 (.tup [])) p2 (.tup [])) p3 (.tup [.ref p1, .ref p2])) (.ref p1) [] := ⟨p1, [], rfl, SqT.of (same_upd hp3 _ _ (same_upd hp2 _ _ upd_same)), .nil⟩
      have hp2' : Pol K (upd (upd (upd H5 p1 (.tup [])) p2 (.tup [])) p3 (.tup [.ref p1, .ref p2])) (.ref p2) [] := ⟨p2, [], rfl, SqT.of (same_upd hp3 _ _ upd_same), .nil⟩
      refine ⟨p3, _, rfl, SqT.of upd_same, rfl, _, _, rfl, _, _, rfl, rfl, ?_⟩
      generalize upd (upd (upd H5 p1 (.tup [])) p2 (.tup [])) p3 (.tup [.ref p1, .ref p2]) = H6 at t3 hp1' hp2' ⊢
      have s46 := s5.trans t3
      have hs6 := hs4.keep s46
      refine ⟨_, rfl, .ref a, d, kn, c, rfl, hs6.spl, LO.so, LO.pk, fun H7 v7 e7 q7 => ?_⟩
      obtain ⟨pa, pvs, rfl, pS, pP⟩ := id q7
      have hpl := Paired.length pP
      refine ⟨pa, rfl, ⟨_, pS⟩, for_tup (xs := pvs) (fun i σ H8 => ∃ l rr o11 o12, σ = [some (.ref sc), some (.ref r), some (.ref a), o3, some u5, o5, some (.int (d : Int)), some (.ref ka), some rw', some l, some rr, o11, o12, none, none, none, none, none] ∧ Same H7 H8 ∧ Pol K H8 l (leftP x5 [] ((pieces kn c d).take i)) ∧ Pol K H8 rr (rightP x5 [] ((pieces kn c d).take i)))
        ⟨_, _, _, _, rfl, Same.refl _, hp1'.keep e7, hp2'.keep e7⟩ (fun i σ H8 _ hI => ?_) (fun i y σ H8 hy hI => ?_) (fun σ H8 hI => ?_)⟩
      · obtain ⟨_, _, _, _, _, sm, _⟩ := hI
        exact seqT_keep sm pS
      · obtain ⟨l, rr, o11, o12, rfl, s8, hl, hrr⟩ := hI
        obtain ⟨p, hp, py⟩ := pr_get2 pP hy
        obtain ⟨b, iv, pv', rfl, hb, ⟨ia, l0, u0, rfl, hia, ra0, ra1⟩, pol⟩ := py.keep s8
        have smp := LO.sp p (List.mem_of_getElem? hp)
        have rx8 := rx5.keep ((t3.trans e7).trans s8)
        have el := leftP_take x5 (pieces kn c d) [] i p hp
        have er := rightP_take x5 (pieces kn c d) [] i p hp
        refine ⟨b, _, rfl, hb, rfl, _, _, rfl, _, _, rfl, rfl, ?_⟩
        refine ⟨_, rfl, ia, _, 0, _, rfl, rfl, hia, atI_nat (j := 0) rfl, _, rfl, _, _, p.1, x5, rfl, ra0, rx8, smp, LO.sx, _, rfl, ?_⟩
        by_cases e1 : p.1 < x5
        · rw [decide_eq_true e1]
          rw [if_pos e1] at el
          refine iteT ⟨_, rfl, _, rfl, _, rfl, ia, _, 0, _, rfl, rfl, hia, atI_nat (j := 0) rfl, _, _, x5, p.1, rfl, rx8, ra0, LO.sx, smp, _, rfl, ?_⟩
          by_cases e2 : x5 < p.1
          · rw [decide_eq_true e2]
            rw [if_neg (fun z => z e2)] at er
            exact iteF ⟨_, rfl, _, _, _, _, rfl, s8, by rw [el]; exact pol, by rw [er]; exact hrr⟩
          · rw [decide_eq_false e2]
            rw [if_pos e2] at er
            exact iteT ⟨_, rfl, _, _, _, _, rfl, s8, by rw [el]; exact pol, by rw [er]; exact pol⟩
        · rw [decide_eq_false e1]
          rw [if_neg e1] at el
          refine iteF ⟨_, rfl, _, rfl, _, rfl, ia, _, 0, _, rfl, rfl, hia, atI_nat (j := 0) rfl, _, _, x5, p.1, rfl, rx8, ra0, LO.sx, smp, _, rfl, ?_⟩
          by_cases e2 : x5 < p.1
          · rw [decide_eq_true e2]
            rw [if_neg (fun z => z e2)] at er
            exact iteF ⟨_, rfl, _, _, _, _, rfl, s8, by rw [el]; exact hl, by rw [er]; exact hrr⟩
          · rw [decide_eq_false e2]
            rw [if_pos e2] at er
            exact iteT ⟨_, rfl, _, _, _, _, rfl, s8, by rw [el]; exact hl, by rw [er]; exact pol⟩
      · obtain ⟨l, rr, o11, o12, rfl, s8, hl, hrr⟩ := hI
        rw [List.take_of_length_le (by omega)] at hl hrr
        have s48 := (s46.trans e7).trans s8
        have s58 := (t3.trans e7).trans s8
        refine ⟨_, rfl, ?_⟩
        refine ⟨_, rfl, _, _, rfl, rfl, _, rfl, by omega, by omega, ?_⟩
        have d4 := hk.d4
        refine for_range (n := ((d : Int) + 1).toNat) (fun i σ H9 => ∃ o14 o15, σ = [some (.ref sc), some (.ref r), some (.ref a), o3, some u5, o5, some (.int (d : Int)), some (.ref ka), some rw', some l, some rr, o11, o12, some (.int (dueN x5 (leftP x5 [] (pieces kn c d)) (rightP x5 [] (pieces kn c d)) i)), o14, o15, none, none] ∧ Same H8 H9) ⟨_, _, rfl, Same.refl _⟩ (fun i σ H9 hi hI => ?_) (fun σ H9 hI => ?_)
        · obtain ⟨o14, o15, rfl, s9⟩ := hI
          obtain ⟨k1, k2⟩ := LO.sl i (by omega)
          refine ⟨_, rfl, _, rfl, l, _, i, by show [l, V.int (0 + (i : Int))] = _; rw [Int.zero_add], hl.keep s9, by omega, k1.len, k1.sm, fun H10 v10 e10 q10 => ?_⟩
          have s10 := s9.trans e10
          refine ⟨_, rfl, _, _, _, x5, rfl, q10, rx5.keep (s58.trans s10), LO.sx, Nat.le_trans (slopes_len _ _) k1.len, k1.ho, fun H11 v11 e11 q11 => ?_⟩
          have s11 := s10.trans e11
          refine ⟨_, rfl, _, rfl, rr, _, i, by show [rr, V.int (0 + (i : Int))] = _; rw [Int.zero_add], hrr.keep s11, by omega, k2.len, k2.sm, fun H12 v12 e12 q12 => ?_⟩
          have s12 := s11.trans e12
          refine ⟨_, rfl, _, _, _, x5, rfl, q12, rx5.keep (s58.trans s12), LO.sx, Nat.le_trans (slopes_len _ _) k2.len, k2.ho, fun H13 v13 e13 q13 => ?_⟩
          have s13 := s12.trans e13
          refine ⟨_, _, rD_dp (q11.keep (e12.trans e13)), rD_dp q13, rD_shaped _, rD_shaped _, ?_⟩
          rw [rD_eqv]
          have ed : dueN x5 (leftP x5 [] (pieces kn c d)) (rightP x5 [] (pieces kn c d)) (i + 1) = if sameO x5 (leftP x5 [] (pieces kn c d)) (rightP x5 [] (pieces kn c d)) i ∧ dueN x5 (leftP x5 [] (pieces kn c d)) (rightP x5 [] (pieces kn c d)) i = (i : Int) - 1 then (i : Int) else dueN x5 (leftP x5 [] (pieces kn c d)) (rightP x5 [] (pieces kn c d)) i := rfl
          refine ⟨_, rfl, _, rfl, ?_⟩
          by_cases e1 : sameO x5 (leftP x5 [] (pieces kn c d)) (rightP x5 [] (pieces kn c d)) i
          · rw [decide_eq_true (show hor x5 0 (slopes i (leftP x5 [] (pieces kn c d))).reverse = hor x5 0 (slopes i (rightP x5 [] (pieces kn c d))).reverse from e1)]
            refine iteT ⟨_, rfl, _, rfl, _, _, rfl, rfl, rfl, _, rfl, ?_⟩
            by_cases e2 : dueN x5 (leftP x5 [] (pieces kn c d)) (rightP x5 [] (pieces kn c d)) i = (i : Int) - 1
            · rw [if_pos ⟨e1, e2⟩] at ed
              rw [decide_eq_true (by rw [e2, Int.zero_add])]
              refine iteT ⟨_, rfl, some (.int (0 + (i : Int))), some (.bl true), ?_, s13⟩
              rw [ed, Int.zero_add]; rfl
            · rw [if_neg (fun z => e2 z.2)] at ed
              rw [decide_eq_false (by rw [Int.zero_add]; intro z; exact e2 (V.int.inj z))]
              refine iteF ⟨_, rfl, some (.int (0 + (i : Int))), some (.bl true), ?_, s13⟩
              rw [ed]; rfl
          · rw [if_neg (fun z => e1 z.1)] at ed
            rw [decide_eq_false (show ¬ hor x5 0 (slopes i (leftP x5 [] (pieces kn c d))).reverse = hor x5 0 (slopes i (rightP x5 [] (pieces kn c d))).reverse from e1)]
            refine iteF ⟨_, rfl, some (.int (0 + (i : Int))), some (.bl false), ?_, s13⟩
            rw [ed]; rfl
        · obtain ⟨o14, o15, rfl, s9⟩ := hI
          have ho : ((d : Int) + 1).toNat = d + 1 := by omega
          rw [ho, LO.du]
          have s59 := s58.trans s9
          have hs9 := (hs6.keep (e7.trans s8)).keep s9
          have rx9 := rx5.keep s59
          refine ⟨_, rfl, _, rfl, .ref a, u5, d, kn, c, x5, rfl, hs9.spl, LO.so, LO.pk, rx9, LO.sx, LO.lo, LO.hi, LO.sm, fun H10 e10 => ?_⟩
          refine ⟨_, rfl, _, _, rfl, fun H11 e11 => ⟨_, rfl, ?_⟩⟩
          rw [decide_eq_true rfl]
          have sE := (s5.trans s59).trans (e10.trans e11)
          have kH11 := sE _ _ kH4
          have kP11 := rtl_keep kP4 sE
          have kS11 : SqT K H11 ka kx := .inl (.inr ⟨ko, kH11⟩)
          have rx11 := rx9.keep (e10.trans e11)
          have hs11 := hs9.keep (e10.trans e11)
          refine iteF ⟨_, rfl, _, rfl, rD x5, kn.map rD, rD_dp rx11, .tup kS11 (rDs_dp kP11), rD_shaped _, rDs_shaped _, _, rfl, ?_⟩
          rw [any_rD]
          by_cases em : x5 ∈ kn
          · rw [decide_eq_true em]
            refine iteF ⟨_, rfl, _, rfl, .ref a, u5, d, kn, c, x5, rfl, hs11, LO.so, LO.pk, rx11, LO.sx, LO.lo, LO.hi, em, LO.sm, fun le H12 e12 => ?_, fun nle => ⟨(LO.rm em nle).1, fun H12 v12 e12 q12 => ?_⟩⟩
            · have kH12 := e12 _ _ kH11
              have kP12 := rtl_keep kP11 e12
              have kS12 : SqT K H12 ka kx := .inl (.inr ⟨ko, kH12⟩)
              refine ⟨_, rfl, rfl, _, rfl, _, rfl, _, rfl, ⟨ka, ko, kx, rfl, kH12, kd⟩, _, rfl, ka, u5, rD x5, kn.map rD, rfl, rfl, .tup kS12 (rDs_dp kP12), rD_dp (rx11.keep e12), rDs_shaped _, rD_shaped _, _, _, rfl, rfl, _, _, rfl, rfl, rfl, false, ?_, ?_⟩
              · show V.bl (!decide (V.bl (decide (V.non = V.non)) = V.bl (decide (smAt x5 d (pieces kn c d) ≤ (d : Int) - (((kn.map rD).countP fun z => PyData.eqv z (rD x5) : Nat) : Int))))) = V.bl false
                rw [cnt_rD, decide_eq_true le]; rfl
              exact iteF ⟨_, rfl, rfl, _, rfl, iteT (hQ _)⟩
            · obtain ⟨_, fo, so⟩ := LO.rm em nle
              have kH12 := e12 _ _ kH11
              have kP12 := rtl_keep kP11 e12
              have kS12 : SqT K H12 ka kx := .inl (.inr ⟨ko, kH12⟩)
              have q12' := q12
              obtain ⟨fa, fk, fr, rfl, fS, fK, fR⟩ := q12
              refine ⟨_, rfl, rfl, _, rfl, _, rfl, _, rfl, ⟨ka, ko, kx, rfl, kH12, kd⟩, _, rfl, ka, u5, rD x5, kn.map rD, rfl, rfl, .tup kS12 (rDs_dp kP12), rD_dp (rx11.keep e12), rDs_shaped _, rD_shaped _, _, _, rfl, rfl, _, _, rfl, rfl, rfl, false, ?_, ?_⟩
              · show V.bl (!decide (V.bl (decide (V.ref fa = V.non)) = V.bl (decide (smAt x5 d (pieces kn c d) ≤ (d : Int) - (((kn.map rD).countP fun z => PyData.eqv z (rD x5) : Nat) : Int))))) = V.bl false
                rw [cnt_rD, decide_eq_false nle]; rfl
              refine iteF ⟨_, rfl, rfl, _, rfl, iteF ?_⟩
              refine ⟨_, rfl, ⟨ka, ko, kx, rfl, kH12, kd⟩, _, rfl, ka, u5, rD x5, kn.map rD, idx kn x5, rD x5, rfl, rfl, .tup kS12 (rDs_dp kP12), rD_dp (rx11.keep e12), rDs_shaped _, rD_shaped _, by rw [List.getElem?_map, idx_at em]; rfl, by rw [rD_eqv]; exact decide_eq_true rfl, fun m z' hm hz' => ?_, ?_⟩
              · rw [List.getElem?_map] at hz'
                obtain ⟨y, hy, rfl⟩ := Option.map_eq_some_iff.mp hz'
                rw [rD_eqv]; exact decide_eq_false (idx_no hm y hy)
              · have il := idx_lt em
                refine ⟨_, rfl, .ref fa, d, _, _, rfl, q12', fo.d4, fo.l9, fo.len, fo.sm, fo.so, fo.fi, fo.la, fun H13 e13 => ⟨true, rfl, iteT ?_⟩⟩
                refine ⟨_, rfl, fa, _, 1, _, rfl, rfl, seqT_keep e13 fS, atI_nat (j := 1) rfl, _, rfl, _, rfl, _, rfl, ?_⟩
                refine sl_any (seqT_keep e13 kS12) (fun H14 b14 e14 hb14 => ?_)
                rw [cutV_to kx _ (by rw [hkl]; omega)] at hb14
                refine ⟨_, rfl, _, rfl, _, _, rfl, rfl, _, rfl, ?_⟩
                rw [show ((idx kn x5 : Nat) : Int) + 1 = ((idx kn x5 + 1 : Nat) : Int) by omega]
                refine sl_from (seqT_keep (e13.trans e14) kS12) (fun H15 b15 e15 hb15 => ?_)
                rw [cutV_from kx _ (by rw [hkl]; omega)] at hb15
                refine cat_any (seqT_keep e15 hb14) hb15 (sz2 (by rw [List.length_take, List.length_drop]; omega)) (fun H16 b16 e16 hb16 => ?_)
                have s1316 := (e14.trans e15).trans e16
                have s16 := e13.trans s1316
                have hl16 : Pol K H16 (.ref b16) (kless kn x5) := ⟨b16, _, rfl, hb16, pr_append (pr_take _ (rtl_keep kP12 s16)) (pr_drop _ (rtl_keep kP12 s16))⟩
                refine ⟨_, _, pol_dp (fK.keep s16), pol_dp hl16, rDs_shaped _, rDs_shaped _, ?_⟩
                rw [rT_eqv, decide_eq_true rfl]
                refine ⟨true, rfl, iteT ⟨_, rfl, _, rfl, .ref fa, .ref a, d, _, _, kn, c, rfl, q12'.keep s16, (hs11.keep (e12.trans s16)).spl, so, fun H17 e17 => hQ _⟩⟩
          · rw [decide_eq_false em]
            refine iteT ⟨_, rfl, _, rfl, rfl, ?_⟩
            rw [LO.nk em, decide_eq_true rfl]
            exact hQ _
theorem law_fn (T : Top K mg) {S : Nat → Nat → List Rat → List Rat → Prop} (Wy : Way S) : ∃ f fd, mg "law" = some (.ref f) ∧ Binds K fd ["_law_script"] [] ∧ ∀ base : Heap, FnOk P w K mg base CX0 12 f fd ["_law_script"] (spLaw K) := by
  obtain ⟨f, fd, m, F⟩ := T.d_law
  refine ⟨f, fd, m, F.bindsN fun _ _ _ _ _ _ us hl => match us, hl with | [_], _ => rfl, fun base => ?_⟩
  refine F.ok sc_law (fun vs H Q E h => by obtain ⟨sc, ns, rfl, _⟩ := h; rfl) fun cdv A outer s H vs Q E hr h => ?_
  obtain ⟨t, h1, h2⟩ := law_body (P := P) (w := w) (base := base) T Wy f cdv A outer s H vs Q E hr h
  exact ⟨t, h1.nox, h2⟩
end
end Bc
end
section
set_option linter.all false
namespace Bc
/-! ### the lists and what they mean -/
def co (p : List Rat) : Nat → Rat := fun k => p.getD k 0
def ev (p : List Rat) (x : Rat) : Rat := hor x 0 p.reverse
theorem ev_nil (x : Rat) : ev [] x = 0 := rfl
theorem ev_cons (a : Rat) (q : List Rat) (x : Rat) : ev (a :: q) x = ev q x * x + a := by
  unfold ev
  rw [List.reverse_cons, hor_step]
theorem sm_const0 (n : Nat) : sm n (fun _ => 0) = 0 := sm_zero fun _ _ => rfl
theorem pe_cons (n : Nat) (a : Rat) (q : List Rat) (x : Rat) : pe (n + 1) (co (a :: q)) x = pe n (co q) x * x + a := by
  unfold pe
  rw [sm_head]
  have h : sm (n + 1) (fun i => co (a :: q) (i + 1) * x ^ (i + 1)) = sm (n + 1) (fun i => x * (co q i * x ^ i)) := sm_congr fun i _ => by
    show q.getD i 0 * x ^ (i + 1) = x * (q.getD i 0 * x ^ i)
    rw [rpow_succ]; grind
  rw [h, sm_mul]
  show a * x ^ 0 + _ = _
  rw [Rat.pow_zero]; grind
theorem ev_pe (x : Rat) : ∀ (n : Nat) (p : List Rat), p.length ≤ n + 1 → ev p x = pe n (co p) x
  | n, [], _ => by
    rw [ev_nil]
    exact (sm_zero fun i _ => by show (0 : Rat) * _ = 0; grind).symm
  | 0, [a], _ => by
    rw [ev_cons, ev_nil]
    show _ = 0 + a * x ^ 0
    rw [Rat.pow_zero]; grind
  | 0, a :: b :: q, h => by simp at h
  | n + 1, a :: q, h => by
    rw [ev_cons, pe_cons, ev_pe x n q (by simpa using h)]
theorem ev_app (p q : List Rat) (x : Rat) : ev (p ++ q) x = ev p x + x ^ p.length * ev q x := by
  induction p with
  | nil => rw [List.nil_append, ev_nil, List.length_nil, Rat.pow_zero]; grind
  | cons a p ih => rw [List.cons_append, ev_cons, ev_cons, ih, List.length_cons, rpow_succ]; grind
theorem ev_zeros (n : Nat) (x : Rat) : ev (List.replicate n 0) x = 0 := by
  induction n with
  | zero => rfl
  | succ n ih => rw [List.replicate_succ, ev_cons, ih]; grind
theorem ev_take_tn (p : List Rat) (x : Rat) : ∀ n, n ≤ p.length → ev (p.take (tn p n)) x = ev (p.take n) x
  | 0, _ => rfl
  | n + 1, h => by
    unfold tn
    by_cases e : p.getD n 0 = 0
    · rw [if_pos e, ev_take_tn p x n (by omega)]
      have hl : p[n]? = some (p.getD n 0) := at_getD (by omega)
      rw [List.take_add_one, hl, e]
      show _ = ev (p.take n ++ [0]) x
      rw [ev_app, ev_cons, ev_nil]; grind
    · rw [if_neg e]
theorem ev_trim (p : List Rat) (x : Rat) : ev (trim p) x = ev p x := by
  unfold trim
  rw [ev_take_tn p x p.length (Nat.le_refl _), List.take_length]
theorem ev_pad (p : List Rat) (n : Nat) (x : Rat) : ev (pad p n) x = ev p x := by
  unfold pad
  rw [ev_app, ev_zeros]; grind
theorem ev_zip (x : Rat) : ∀ (p q : List Rat), p.length = q.length → ev (List.zipWith (· + ·) p q) x = ev p x + ev q x
  | [], [], _ => by rw [List.zipWith_nil_left, ev_nil]; grind
  | [], _ :: _, h => by simp at h
  | _ :: _, [], h => by simp at h
  | a :: p, b :: q, h => by
    rw [List.zipWith_cons_cons, ev_cons, ev_cons, ev_cons, ev_zip x p q (by simpa using h)]; grind
theorem pad_len' (p : List Rat) {n : Nat} (h : p.length ≤ n) : (pad p n).length = n := by unfold pad; rw [List.length_append, List.length_replicate]; omega
theorem ev_pplus (p q : List Rat) (x : Rat) : ev (pplus p q) x = ev p x + ev q x := by
  unfold pplus
  rw [ev_trim, ev_zip, ev_pad, ev_pad]
  rw [pad_len' _ (Nat.le_max_left _ _), pad_len' _ (Nat.le_max_right _ _)]
theorem ev_map (p : List Rat) (k x : Rat) : ev (p.map (· * k)) x = ev p x * k := by
  induction p with
  | nil => rw [List.map_nil, ev_nil]; grind
  | cons a p ih => rw [List.map_cons, ev_cons, ev_cons, ih]; grind
theorem ev_pscale (p : List Rat) (k x : Rat) : ev (pscale p k) x = ev p x * k := by
  unfold pscale
  rw [ev_trim, ev_map]
theorem ev_set (x v : Rat) : ∀ (f : List Rat) (k : Nat), k < f.length → ev (f.set k v) x = ev f x + (v - f.getD k 0) * x ^ k
  | [], k, h => by simp at h
  | a :: f, 0, h => by
    rw [List.set_cons_zero, ev_cons, ev_cons, Rat.pow_zero]
    show _ = _ + (v - a) * 1
    grind
  | a :: f, k + 1, h => by
    rw [List.set_cons_succ, ev_cons, ev_cons, ev_set x v f k (by simpa using h), rpow_succ]
    show _ = _ + (v - f.getD k 0) * _
    grind
theorem ev_mrow (a x : Rat) : ∀ (ys f : List Rat) (k : Nat), k + ys.length ≤ f.length → ev (mrow a f k ys) x = ev f x + a * x ^ k * ev ys x
  | [], f, k, _ => by
    show ev f x = _
    rw [ev_nil]; grind
  | y :: ys, f, k, h => by
    rw [List.length_cons] at h
    show ev (mrow a (f.set k (f.getD k 0 + a * y)) (k + 1) ys) x = _
    rw [ev_mrow a x ys _ _ (by rw [List.length_set]; omega), ev_set x _ f k (by omega), ev_cons, rpow_succ]; grind
theorem ev_mall (q : List Rat) (x : Rat) : ∀ (xs f : List Rat) (k : Nat), k + xs.length + q.length ≤ f.length + 1 → ev (mall q f k xs) x = ev f x + x ^ k * ev xs x * ev q x
  | [], f, k, _ => by
    show ev f x = _
    rw [ev_nil]; grind
  | a :: xs, f, k, h => by
    rw [List.length_cons] at h
    show ev (mall q (mrow a f k q) (k + 1) xs) x = _
    rw [ev_mall q x xs _ _ (by rw [mrow_len]; omega), ev_mrow a x q f k (by omega), ev_cons, rpow_succ]; grind
theorem ev_ptimes (p q : List Rat) (x : Rat) : ev (ptimes p q) x = ev p x * ev q x := by
  unfold ptimes
  by_cases h : p = [] ∨ q = []
  · rw [if_pos h, ev_nil]
    rcases h with rfl | rfl
    · rw [ev_nil]; grind
    · rw [ev_nil]; grind
  · rw [if_neg h, ev_mall _ _ _ _ _ (by rw [List.length_replicate]; omega), ev_zeros, Rat.pow_zero]; grind
theorem ev_ln1 (a b x : Rat) : ev (ln1 a b) x = (x - a) / (b - a) := by
  unfold ln1
  rw [ev_cons, ev_cons, ev_nil]; grind
theorem ev_ln2 (a b x : Rat) : ev (ln2 a b) x = (b - x) / (b - a) := by
  unfold ln2
  rw [ev_cons, ev_cons, ev_nil]; grind
theorem ev_bpoly (t : Nat → Rat) (j : Nat) (x : Rat) : ∀ d i, ev (bpoly t d i j) x = N t d i j x
  | 0, i => by
    show ev (if i = j then [1] else []) x = if i = j then 1 else 0
    by_cases h : i = j
    · rw [if_pos h, if_pos h, ev_cons, ev_nil]; grind
    · rw [if_neg h, if_neg h, ev_nil]
  | d + 1, i => by
    have e1 : ev (if t i = t (i + d + 1) then [] else ptimes (ln1 (t i) (t (i + d + 1))) (bpoly t d i j)) x = (x - t i) / (t (i + d + 1) - t i) * N t d i j x := by
      by_cases h : t i = t (i + d + 1)
      · rw [if_pos h, ev_nil, h]
        have : t (i + d + 1) - t (i + d + 1) = 0 := by grind
        rw [this, Rat.div_def, Rat.inv_zero]; grind
      · rw [if_neg h, ev_ptimes, ev_ln1, ev_bpoly t j x d i]
    rw [N_succ]
    by_cases h : t (i + 1) = t (i + d + 2)
    · have : bpoly t (d + 1) i j = (if t i = t (i + d + 1) then [] else ptimes (ln1 (t i) (t (i + d + 1))) (bpoly t d i j)) := by
        show (if t (i + 1) = t (i + d + 2) then _ else _) = _
        rw [if_pos h]
      rw [this, e1, h]
      have : t (i + d + 2) - t (i + d + 2) = 0 := by grind
      rw [this, Rat.div_def (t (i + d + 2) - x), Rat.inv_zero]; grind
    · have : bpoly t (d + 1) i j = pplus (if t i = t (i + d + 1) then [] else ptimes (ln1 (t i) (t (i + d + 1))) (bpoly t d i j)) (ptimes (ln2 (t (i + 1)) (t (i + d + 2))) (bpoly t d (i + 1) j)) := by
        show (if t (i + 1) = t (i + d + 2) then _ else _) = _
        rw [if_neg h]
      rw [this, ev_pplus, e1, ev_ptimes, ev_ln2, ev_bpoly t j x d (i + 1)]
theorem ev_ppolyN (t c : Nat → Rat) (d j : Nat) (x : Rat) : ∀ r, ev (ppolyN t c d j r) x = sm r (fun r => c (j - d + r) * N t d (j - d + r) j x)
  | 0 => rfl
  | r + 1 => by
    show ev (pplus (ppolyN t c d j r) (pscale (bpoly t d (j - d + r) j) (c (j - d + r)))) x = sm r _ + _
    rw [ev_pplus, ev_ppolyN t c d j x r, ev_pscale, ev_bpoly]; grind
theorem ev_ppoly (t c : Nat → Rat) (d j : Nat) (x : Rat) : ev (ppoly t c d j) x = sm (d + 1) (fun r => c (j - d + r) * N t d (j - d + r) j x) := ev_ppolyN t c d j x (d + 1)
/-! ### lengths -/
theorem pplus_lenB (p q : List Rat) : (pplus p q).length ≤ max p.length q.length := by
  unfold pplus
  refine Nat.le_trans (trim_len _) ?_
  rw [List.length_zipWith, pad_len' _ (Nat.le_max_left _ _), pad_len' _ (Nat.le_max_right _ _)]; omega
theorem pscale_lenB (p : List Rat) (k : Rat) : (pscale p k).length ≤ p.length := by
  unfold pscale
  have := trim_len (p.map (· * k))
  rwa [List.length_map] at this
theorem ptimes_len2 (a b : Rat) (q : List Rat) : (ptimes [a, b] q).length ≤ q.length + 1 := by
  unfold ptimes
  split
  · simp
  · rw [mall_len, List.length_replicate]
    show 2 + q.length - 1 ≤ _
    omega
theorem bpoly_lenB (t : Nat → Rat) (j : Nat) : ∀ d i, (bpoly t d i j).length ≤ d + 1
  | 0, i => by show (if i = j then [(1 : Rat)] else []).length ≤ 1; split <;> simp
  | d + 1, i => by
    have h1 := bpoly_lenB t j d i
    have h2 := bpoly_lenB t j d (i + 1)
    have e1 : (if t i = t (i + d + 1) then [] else ptimes (ln1 (t i) (t (i + d + 1))) (bpoly t d i j)).length ≤ d + 2 := by
      split
      · simp
      · exact Nat.le_trans (ptimes_len2 _ _ _) (by omega)
    have e2 : (ptimes (ln2 (t (i + 1)) (t (i + d + 2))) (bpoly t d (i + 1) j)).length ≤ d + 2 := Nat.le_trans (ptimes_len2 _ _ _) (by omega)
    show (if t (i + 1) = t (i + d + 2) then _ else _ : List Rat).length ≤ d + 2
    split
    · exact e1
    · exact Nat.le_trans (pplus_lenB _ _) (by omega)
theorem ppolyN_lenB (t c : Nat → Rat) (d j : Nat) : ∀ r, (ppolyN t c d j r).length ≤ d + 1
  | 0 => by simp [ppolyN]
  | r + 1 => by
    show (pplus (ppolyN t c d j r) (pscale (bpoly t d (j - d + r) j) (c (j - d + r)))).length ≤ _
    have h1 := ppolyN_lenB t c d j r
    have h2 := pscale_lenB (bpoly t d (j - d + r) j) (c (j - d + r))
    have h3 := bpoly_lenB t j d (j - d + r)
    have h4 := pplus_lenB (ppolyN t c d j r) (pscale (bpoly t d (j - d + r) j) (c (j - d + r)))
    omega
theorem ppoly_lenB (t c : Nat → Rat) (d j : Nat) : (ppoly t c d j).length ≤ d + 1 := ppolyN_lenB t c d j (d + 1)
end Bc
end
section
set_option Elab.async false
set_option linter.all false
set_option maxRecDepth 100000
set_option exponentiation.threshold 200000
namespace Bc
/-! ### orders -/
/-- the first of m orders at which two functions of orders differ -/
theorem dueN_all {x : Rat} {l r : List Rat} : ∀ m, (∀ o, o < m → sameO x l r o) → dueN x l r m = (m : Int) - 1
  | 0, _ => rfl
  | m + 1, h => by
    have ih := dueN_all (x := x) (l := l) (r := r) m (fun o ho => h o (by omega))
    show (if sameO x l r m ∧ dueN x l r m = (m : Int) - 1 then (m : Int) else dueN x l r m) = _
    rw [if_pos ⟨h m (by omega), ih⟩]; omega
theorem dueN_stop {x : Rat} {l r : List Rat} {o : Nat} (h : ∀ k, k < o → sameO x l r k) (hn : ¬ sameO x l r o) : ∀ m, o < m → dueN x l r m = (o : Int) - 1
  | 0, hm => by omega
  | m + 1, hm => by
    show (if sameO x l r m ∧ dueN x l r m = (m : Int) - 1 then (m : Int) else dueN x l r m) = _
    by_cases e : m = o
    · subst e
      rw [if_neg (fun z => hn z.1)]; exact dueN_all m h
    · have ih := dueN_stop h hn m (by omega)
      rw [if_neg (fun z => by rw [ih] at z; have := z.2; omega)]; exact ih
theorem slopes_in (p : List Rat) : ∀ o, slopes o (pslope p) = slopes (o + 1) p
  | 0 => rfl
  | o + 1 => by show pslope (slopes o (pslope p)) = pslope (slopes (o + 1) p); rw [slopes_in p o]
theorem ordAt_due {x : Rat} {d : Nat} {l r : List Rat} : ∀ (n o : Nat), o + n = d + 1 → (∀ k, k < o → sameO x l r k) → ordAt x d n o (slopes o l) (slopes o r) = dueN x l r (d + 1)
  | 0, o, h, hs => by
    rw [dueN_all (d + 1) (fun k hk => hs k (by omega))]
    show (d : Int) = _
    omega
  | n + 1, o, h, hs => by
    show (if hor x 0 (slopes o l).reverse ≠ hor x 0 (slopes o r).reverse then (o : Int) - 1 else ordAt x d n (o + 1) (slopes (o + 1) l) (slopes (o + 1) r)) = _
    by_cases e : hor x 0 (slopes o l).reverse = hor x 0 (slopes o r).reverse
    · rw [if_neg (fun z => z e)]
      refine ordAt_due n (o + 1) (by omega) (fun k hk => ?_)
      by_cases ek : k = o
      · subst ek; exact e
      · exact hs k (by omega)
    · rw [if_pos e, dueN_stop hs e (d + 1) (by omega)]
theorem ord_due (x : Rat) (d : Nat) (l r : List Rat) : ordAt x d (d + 1) 0 l r = dueN x l r (d + 1) := ordAt_due (d + 1) 0 (by omega) (fun _ h => by omega)
theorem due_self (x : Rat) (d : Nat) (l : List Rat) : dueN x l l (d + 1) = d := by
  rw [dueN_all (d + 1) (fun _ _ => rfl)]; omega
/-- pieces by their beginnings -/
def Incr : List Pc → Prop
  | a :: b :: r => a.1 < b.1 ∧ Incr (b :: r)
  | _ => True
theorem incr_above {x : Rat} : ∀ (ps : List Pc) (a : Pc), Incr (a :: ps) → x < a.1 → ∀ p ∈ ps, x < p.1
  | [], _, _, _, p, hp => by cases hp
  | b :: r, a, ⟨h1, h2⟩, hx, p, hp => by
    have hb : x < b.1 := by grind
    rcases List.mem_cons.mp hp with rfl | hp
    · exact hb
    · exact incr_above r b h2 hb p hp
theorem incr_above' {x : Rat} : ∀ (ps : List Pc) (a : Pc), Incr (a :: ps) → a.1 = x → ∀ p ∈ ps, x < p.1
  | [], _, _, _, p, hp => by cases hp
  | b :: r, a, ⟨h1, h2⟩, hx, p, hp => by
    have hb : x < b.1 := by grind
    rcases List.mem_cons.mp hp with rfl | hp
    · exact hb
    · exact incr_above r b h2 hb p hp
theorem leftP_none {x : Rat} : ∀ (ps : List Pc) (acc : List Rat), (∀ p ∈ ps, x < p.1) → leftP x acc ps = acc
  | [], _, _ => rfl
  | a :: r, acc, h => by
    show leftP x (if a.1 < x then a.2.2 else acc) r = acc
    have := h a List.mem_cons_self
    rw [if_neg (by grind)]
    exact leftP_none r acc fun p hp => h p (List.mem_cons_of_mem _ hp)
theorem rightP_none {x : Rat} : ∀ (ps : List Pc) (acc : List Rat), (∀ p ∈ ps, x < p.1) → rightP x acc ps = acc
  | [], _, _ => rfl
  | a :: r, acc, h => by
    show rightP x (if ¬ x < a.1 then a.2.2 else acc) r = acc
    rw [if_neg (fun z => z (h a List.mem_cons_self))]
    exact rightP_none r acc fun p hp => h p (List.mem_cons_of_mem _ hp)
theorem smAt_none {x : Rat} {d : Nat} : ∀ (ps : List Pc) (a : Pc), (∀ p ∈ ps, x < p.1) → smAt x d (a :: ps) = d
  | [], _, _ => rfl
  | b :: r, a, h => by
    show (if b.1 = x then _ else smAt x d (b :: r)) = _
    have := h b List.mem_cons_self
    rw [if_neg (by grind)]
    exact smAt_none r b fun p hp => h p (List.mem_cons_of_mem _ hp)
theorem due_smAt {x : Rat} {d : Nat} : ∀ (ps : List Pc) (a : Pc), Incr (a :: ps) → a.1 < x → dueN x (leftP x a.2.2 ps) (rightP x a.2.2 ps) (d + 1) = smAt x d (a :: ps)
  | [], a, _, _ => due_self x d a.2.2
  | b :: r, a, hi, ha => by
    have hi' := hi
    obtain ⟨h1, h2⟩ := hi
    by_cases e1 : b.1 < x
    · have el : leftP x a.2.2 (b :: r) = leftP x b.2.2 r := by
        show leftP x (if b.1 < x then b.2.2 else a.2.2) r = _
        rw [if_pos e1]
      have er : rightP x a.2.2 (b :: r) = rightP x b.2.2 r := by
        show rightP x (if ¬ x < b.1 then b.2.2 else a.2.2) r = _
        rw [if_pos (by grind)]
      have es : smAt x d (a :: b :: r) = smAt x d (b :: r) := by
        show (if b.1 = x then _ else smAt x d (b :: r)) = _
        rw [if_neg (by grind)]
      rw [el, er, es]; exact due_smAt r b h2 e1
    · by_cases e2 : b.1 = x
      · have ab := incr_above' r b h2 e2
        have el : leftP x a.2.2 (b :: r) = a.2.2 := by
          show leftP x (if b.1 < x then b.2.2 else a.2.2) r = _
          rw [if_neg e1]; exact leftP_none r _ ab
        have er : rightP x a.2.2 (b :: r) = b.2.2 := by
          show rightP x (if ¬ x < b.1 then b.2.2 else a.2.2) r = _
          rw [if_pos (by grind)]; exact rightP_none r _ ab
        have es : smAt x d (a :: b :: r) = ordAt x d (d + 1) 0 a.2.2 b.2.2 := by
          show (if b.1 = x then ordAt x d (d + 1) 0 a.2.2 b.2.2 else _) = _
          rw [if_pos e2]
        rw [el, er, es, ord_due]
      · have hb : x < b.1 := by grind
        have ab : ∀ p ∈ b :: r, x < p.1 := fun p hp => by
          rcases List.mem_cons.mp hp with rfl | hp
          · exact hb
          · exact incr_above r b h2 hb p hp
        rw [leftP_none _ _ ab, rightP_none _ _ ab, smAt_none _ _ ab, due_self]
/-- .. of the whole list -/
theorem due_pieces {x : Rat} {d : Nat} {ps : List Pc} (hi : Incr ps) {a : Pc} (h0 : ps[0]? = some a) (ha : a.1 < x) : dueN x (leftP x [] ps) (rightP x [] ps) (d + 1) = smAt x d ps := by
  cases ps with
  | nil => cases h0
  | cons b r =>
    have : b = a := Option.some.inj h0
    subst this
    have el : leftP x [] (b :: r) = leftP x b.2.2 r := by
      show leftP x (if b.1 < x then b.2.2 else []) r = _
      rw [if_pos ha]
    have er : rightP x [] (b :: r) = rightP x b.2.2 r := by
      show rightP x (if ¬ x < b.1 then b.2.2 else []) r = _
      rw [if_pos (by grind)]
    rw [el, er]; exact due_smAt r b hi ha
theorem leftP_mem {x : Rat} : ∀ (ps : List Pc) (acc : List Rat), leftP x acc ps = acc ∨ ∃ p ∈ ps, leftP x acc ps = p.2.2
  | [], acc => .inl rfl
  | a :: r, acc => by
    show leftP x (if a.1 < x then a.2.2 else acc) r = acc ∨ _
    rcases leftP_mem (x := x) r (if a.1 < x then a.2.2 else acc) with h | ⟨p, hp, h⟩
    · by_cases e : a.1 < x
      · rw [if_pos e] at h
        right
        refine ⟨a, List.mem_cons_self, ?_⟩
        show leftP x (if a.1 < x then a.2.2 else acc) r = _
        rw [if_pos e]; exact h
      · rw [if_neg e] at h
        left
        rw [if_neg e]; exact h
    · exact .inr ⟨p, List.mem_cons_of_mem _ hp, h⟩
theorem rightP_mem {x : Rat} : ∀ (ps : List Pc) (acc : List Rat), rightP x acc ps = acc ∨ ∃ p ∈ ps, rightP x acc ps = p.2.2
  | [], acc => .inl rfl
  | a :: r, acc => by
    show rightP x (if ¬ x < a.1 then a.2.2 else acc) r = acc ∨ _
    rcases rightP_mem (x := x) r (if ¬ x < a.1 then a.2.2 else acc) with h | ⟨p, hp, h⟩
    · by_cases e : x < a.1
      · rw [if_neg (fun z => z e)] at h
        left
        rw [if_neg (fun z => z e)]; exact h
      · rw [if_pos e] at h
        right
        refine ⟨a, List.mem_cons_self, ?_⟩
        show rightP x (if ¬ x < a.1 then a.2.2 else acc) r = _
        rw [if_pos e]; exact h
    · exact .inr ⟨p, List.mem_cons_of_mem _ hp, h⟩
end Bc
end
section
set_option Elab.async false
set_option linter.all false
set_option maxRecDepth 100000
set_option exponentiation.threshold 200000
namespace Bc
/-! ### pieces -/
section
variable {t c : Nat → Rat} {d : Nat}
theorem pcsN_mem {p : Pc} : ∀ {m : Nat}, p ∈ pcsN t c d m → ∃ j, j < m ∧ t j ≠ t (j + 1) ∧ p = (t j, t (j + 1), ppoly t c d j)
  | 0, h => by cases h
  | m + 1, h => by
    have h' : p ∈ (if t m = t (m + 1) then pcsN t c d m else pcsN t c d m ++ [(t m, t (m + 1), ppoly t c d m)]) := h
    by_cases e : t m = t (m + 1)
    · rw [if_pos e] at h'
      obtain ⟨j, h1, h2⟩ := pcsN_mem h'
      exact ⟨j, by omega, h2⟩
    · rw [if_neg e] at h'
      rcases List.mem_append.mp h' with h' | h'
      · obtain ⟨j, h1, h2⟩ := pcsN_mem h'
        exact ⟨j, by omega, h2⟩
      · exact ⟨m, by omega, e, List.mem_singleton.mp h'⟩
theorem pcsN_no {m : Nat} (h : t m = t (m + 1)) : pcsN t c d (m + 1) = pcsN t c d m := by
  show (if t m = t (m + 1) then _ else _) = _
  rw [if_pos h]
theorem pcsN_yes {m : Nat} (h : t m ≠ t (m + 1)) : pcsN t c d (m + 1) = pcsN t c d m ++ [(t m, t (m + 1), ppoly t c d m)] := by
  show (if t m = t (m + 1) then _ else _) = _
  rw [if_neg h]
theorem pcsN_pre (m : Nat) : ∀ g, ∃ r, pcsN t c d (m + g) = pcsN t c d m ++ r
  | 0 => ⟨[], by rw [List.append_nil]; rfl⟩
  | g + 1 => by
    obtain ⟨r, hr⟩ := pcsN_pre m g
    rw [show m + (g + 1) = m + g + 1 by omega]
    by_cases e : t (m + g) = t (m + g + 1)
    · exact ⟨r, by rw [pcsN_no e, hr]⟩
    · exact ⟨r ++ [_], by rw [pcsN_yes e, hr, List.append_assoc]⟩
theorem pcsN_flat {j : Nat} : ∀ g, (∀ i, j < i → i ≤ j + g → t i = t (i + 1) ∨ i = j + g) → pcsN t c d (j + 1 + (g - 1)) = pcsN t c d (j + 1)
  | 0, _ => rfl
  | 1, _ => rfl
  | g + 2, h => by
    have ih := pcsN_flat (j := j) (g + 1) (fun i h1 h2 => by
      rcases h i h1 (by omega) with h3 | h3
      · exact .inl h3
      · omega)
    rw [show j + 1 + (g + 2 - 1) = j + 1 + g + 1 by omega, pcsN_no, ← ih, show j + 1 + (g + 1 - 1) = j + 1 + g by omega]
    rcases h (j + 1 + g) (by omega) (by omega) with h3 | h3
    · exact h3
    · omega
theorem incr_snoc {b : Pc} : ∀ {l : List Pc}, Incr l → (∀ p ∈ l, p.1 < b.1) → Incr (l ++ [b])
  | [], _, _ => trivial
  | [a], _, h => ⟨h a List.mem_cons_self, trivial⟩
  | a :: e :: r, ⟨h1, h2⟩, h => ⟨h1, incr_snoc (l := e :: r) h2 fun p hp => h p (List.mem_cons_of_mem _ hp)⟩
theorem pcsN_incr (mono : ∀ a b, a ≤ b → t a ≤ t b) : ∀ m, Incr (pcsN t c d m)
  | 0 => trivial
  | m + 1 => by
    by_cases e : t m = t (m + 1)
    · rw [pcsN_no e]; exact pcsN_incr mono m
    · rw [pcsN_yes e]
      refine incr_snoc (pcsN_incr mono m) fun p hp => ?_
      obtain ⟨j, h1, h2, rfl⟩ := pcsN_mem hp
      have a := mono j (j + 1) (by omega)
      have b := mono (j + 1) m (by omega)
      show t j < t m
      grind
theorem pcsN_head (mono : ∀ a b, a ≤ b → t a ≤ t b) : ∀ m, (pcsN t c d m = [] ∧ ∀ i, i ≤ m → t i = t 0) ∨ ∃ a, (pcsN t c d m)[0]? = some a ∧ a.1 = t 0
  | 0 => .inl ⟨rfl, fun i h => by rw [show i = 0 by omega]⟩
  | m + 1 => by
    by_cases e : t m = t (m + 1)
    · rw [pcsN_no e]
      rcases pcsN_head mono m with ⟨h1, h2⟩ | h
      · left
        refine ⟨h1, fun i hi => ?_⟩
        by_cases ei : i = m + 1
        · rw [ei, ← e]; exact h2 m (Nat.le_refl m)
        · exact h2 i (by omega)
      · exact .inr h
    · right
      rw [pcsN_yes e]
      rcases pcsN_head mono m with ⟨h1, h2⟩ | ⟨a, h1, h2⟩
      · rw [h1]
        exact ⟨_, rfl, h2 m (Nat.le_refl m)⟩
      · refine ⟨a, ?_, h2⟩
        cases hp : pcsN t c d m with
        | nil => rw [hp] at h1; cases h1
        | cons b r => rw [hp] at h1; exact h1
theorem povr_at (mono : ∀ a b, a ≤ b → t a ≤ t b) {q : Nat} (hq : t q < t (q + 1)) (dflt : List Rat) : ∀ m, q < m → povr (t q) dflt (pcsN t c d m).reverse = ppoly t c d q
  | 0, h => by omega
  | m + 1, h => by
    by_cases e : t m = t (m + 1)
    · have : q ≠ m := by rintro rfl; grind
      rw [pcsN_no e]; exact povr_at mono hq dflt m (by omega)
    · rw [pcsN_yes e, List.reverse_append]
      show (if t q < t m then povr (t q) dflt (pcsN t c d m).reverse else ppoly t c d m) = _
      by_cases eq : q = m
      · subst eq
        rw [if_neg (by grind)]
      · have := mono (q + 1) m (by omega)
        rw [if_pos (by grind)]; exact povr_at mono hq dflt m (by omega)
theorem polyOver_at (mono : ∀ a b, a ≤ b → t a ≤ t b) {q m : Nat} (hq : t q < t (q + 1)) (h : q < m) : polyOver (pcsN t c d m) (t q) = ppoly t c d q := povr_at mono hq _ m h
theorem smAt_app {x : Rat} {a b : Pc} {r : List Pc} (hb : b.1 = x) (ha : a.1 ≠ x) : ∀ L : List Pc, (∀ p ∈ L, p.1 ≠ x) → smAt x d (L ++ a :: b :: r) = ordAt x d (d + 1) 0 a.2.2 b.2.2
  | [], _ => by
    show (if b.1 = x then _ else _) = _
    rw [if_pos hb]
  | [e], h => by
    show (if a.1 = x then _ else smAt x d (a :: b :: r)) = _
    rw [if_neg ha]
    show (if b.1 = x then _ else _) = _
    rw [if_pos hb]
  | e :: f :: L, h => by
    show (if f.1 = x then _ else smAt x d (f :: (L ++ a :: b :: r))) = _
    rw [if_neg (h f (List.mem_cons_of_mem _ List.mem_cons_self))]
    exact smAt_app hb ha (f :: L) fun p hp => h p (List.mem_cons_of_mem _ hp)
theorem smAt_no {x : Rat} : ∀ L : List Pc, (∀ p ∈ L, p.1 ≠ x) → smAt x d L = d
  | [], _ => rfl
  | [a], _ => rfl
  | a :: b :: r, h => by
    show (if b.1 = x then _ else smAt x d (b :: r)) = _
    rw [if_neg (h b (List.mem_cons_of_mem _ List.mem_cons_self))]
    exact smAt_no (b :: r) fun p hp => h p (List.mem_cons_of_mem _ hp)
theorem smAt_knot (mono : ∀ a b, a ≤ b → t a ≤ t b) {j k m : Nat} (hjk : j < k) (hkm : k < m) (hj : t j < t (j + 1)) (hk : t k < t (k + 1)) (h : ∀ i, j < i → i ≤ k → t i = t k) :
    smAt (t k) d (pcsN t c d m) = ordAt (t k) d (d + 1) 0 (ppoly t c d j) (ppoly t c d k) := by
  have e1 : pcsN t c d (j + 1) = pcsN t c d j ++ [(t j, t (j + 1), ppoly t c d j)] := pcsN_yes (by grind)
  have e2 : pcsN t c d k = pcsN t c d (j + 1) := by
    have := pcsN_flat (t := t) (c := c) (d := d) (j := j) (k - j) (fun i h1 h2 => by
      by_cases ei : i = j + (k - j)
      · exact .inr ei
      · left
        rw [h i h1 (by omega), h (i + 1) (by omega) (by omega)])
    rw [show j + 1 + (k - j - 1) = k by omega] at this
    exact this
  have e3 : pcsN t c d (k + 1) = pcsN t c d k ++ [(t k, t (k + 1), ppoly t c d k)] := pcsN_yes (by grind)
  obtain ⟨r, e4⟩ := pcsN_pre (t := t) (c := c) (d := d) (k + 1) (m - (k + 1))
  rw [show k + 1 + (m - (k + 1)) = m by omega] at e4
  rw [e4, e3, e2, e1, List.append_assoc, List.append_assoc]
  have b1 := mono (j + 1) k (by omega)
  refine smAt_app (a := (t j, t (j + 1), ppoly t c d j)) (b := (t k, t (k + 1), ppoly t c d k)) rfl ?_ _ fun p hp => ?_
  · show t j ≠ t k
    grind
  · obtain ⟨i, h1, h2, rfl⟩ := pcsN_mem hp
    have b2 := mono i j (by omega)
    show t i ≠ t k
    grind
end
/-! ### knots that go on -/
def te (kn : List Rat) : Nat → Rat := fun i => kn.getD (min i (kn.length - 1)) 0
theorem te_tk {kn : List Rat} {i : Nat} (h : i < kn.length) : te kn i = tk kn i := by
  show kn.getD (min i (kn.length - 1)) 0 = kn.getD i 0
  rw [Nat.min_eq_left (by omega)]
theorem bpoly_congr {t t' : Nat → Rat} (j : Nat) : ∀ d i, (∀ k, i ≤ k → k ≤ i + d + 1 → t k = t' k) → bpoly t d i j = bpoly t' d i j
  | 0, i, _ => rfl
  | d + 1, i, h => by
    show (if t (i + 1) = t (i + d + 2) then (if t i = t (i + d + 1) then [] else ptimes (ln1 (t i) (t (i + d + 1))) (bpoly t d i j))
      else pplus (if t i = t (i + d + 1) then [] else ptimes (ln1 (t i) (t (i + d + 1))) (bpoly t d i j)) (ptimes (ln2 (t (i + 1)) (t (i + d + 2))) (bpoly t d (i + 1) j))) = _
    rw [bpoly_congr j d i (fun k h1 h2 => h k h1 (by omega)), bpoly_congr j d (i + 1) (fun k h1 h2 => h k (by omega) (by omega)), h i (by omega) (by omega), h (i + 1) (by omega) (by omega), h (i + d + 1) (by omega) (by omega), h (i + d + 2) (by omega) (by omega)]
    rfl
theorem ppolyN_congr {t t' c : Nat → Rat} {d j : Nat} (hd : d ≤ j) (h : ∀ k, j - d ≤ k → k ≤ j + d + 1 → t k = t' k) : ∀ r, r ≤ d + 1 → ppolyN t c d j r = ppolyN t' c d j r
  | 0, _ => rfl
  | r + 1, hr => by
    show pplus (ppolyN t c d j r) (pscale (bpoly t d (j - d + r) j) (c (j - d + r))) = _
    rw [ppolyN_congr hd h r (by omega), bpoly_congr j d (j - d + r) (fun k h1 h2 => h k (by omega) (by omega))]
    rfl
section
variable {d : Nat} {kn : List Rat}
theorem KnG.spl {n : Nat} (h : KnG d kn) (hn : n + d + 1 = kn.length) : Spl d n (te kn) := by
  have l2 := h.len2
  refine ⟨fun a b hab => h.so _ _ (by omega) (by omega), fun i hi => ?_, ?_, fun i hi => ?_, by omega⟩
  · rw [te_tk (by omega), te_tk (by omega)]; exact h.mu i (by omega)
  · rw [te_tk (by omega), te_tk (by omega)]; exact (h.hd d (Nat.le_refl d)).symm
  · have h1 := h.la (min i (kn.length - 1)) (by omega) (by omega)
    have h2 := h.la (min n (kn.length - 1)) (by omega) (by omega)
    show kn.getD (min i (kn.length - 1)) 0 = kn.getD (min n (kn.length - 1)) 0
    rw [h1, h2]
theorem pieces_te {c : List Rat} (h : KnG d kn) (hn : c.length + d + 1 = kn.length) : pieces kn c d = pcsN (te kn) (tk c) d (kn.length - 1) := by
  have S := h.spl hn
  have gen : ∀ m, m ≤ kn.length - 1 → pcsN (tk kn) (tk c) d m = pcsN (te kn) (tk c) d m := by
    intro m
    induction m with
    | zero => intro _; rfl
    | succ m ih =>
      intro hm
      have e1 : te kn m = tk kn m := te_tk (by omega)
      have e2 : te kn (m + 1) = tk kn (m + 1) := te_tk (by omega)
      by_cases e : te kn m = te kn (m + 1)
      · rw [pcsN_no e, pcsN_no (by rw [← e1, ← e2]; exact e), ih (by omega)]
      · rw [pcsN_yes e, pcsN_yes (by rw [← e1, ← e2]; exact e), ih (by omega), e1, e2]
        have a := S.mono m (m + 1) (by omega)
        have hlt : te kn m < te kn (m + 1) := by grind
        have b1 := S.low hlt
        have b2 := S.high hlt
        have e3 : ppoly (tk kn) (tk c) d m = ppoly (te kn) (tk c) d m := ppolyN_congr b1 (fun k h1 h2 => (te_tk (by omega)).symm) (d + 1) (Nat.le_refl _)
        rw [e3]
  exact gen _ (Nat.le_refl _)
end
end Bc
end
section
set_option Elab.async false
set_option linter.all false
set_option maxRecDepth 100000
set_option exponentiation.threshold 200000
namespace Bc
/-! ### derivatives -/
theorem co_pslope (p : List Rat) : co (pslope p) = dr (co p) := by
  funext k
  show (pslope p).getD k 0 = ((k + 1 : Nat) : Rat) * p.getD (k + 1) 0
  by_cases h : k + 1 < p.length
  · rw [getD_at (pslope_at (at_getD h))]; grind
  · have h1 : (pslope p).length ≤ k := by rw [pslope_len]; omega
    rw [List.getD_eq_getElem?_getD, List.getElem?_eq_none h1, List.getD_eq_getElem?_getD, List.getElem?_eq_none (by omega)]
    show (0 : Rat) = _ * 0
    grind
theorem co_slopes : ∀ (r : Nat) (p : List Rat), co (slopes r p) = drs r (co p)
  | 0, p => rfl
  | r + 1, p => by
    rw [← slopes_in, co_slopes r (pslope p), co_pslope]; rfl
theorem slopes_len2 (p : List Rat) : ∀ r, (slopes r p).length = p.length - r
  | 0 => rfl
  | r + 1 => by
    show (pslope (slopes r p)).length = _
    rw [pslope_len, slopes_len2 p r]; omega
theorem ev_slopes {p : List Rat} {d r : Nat} (hp : p.length ≤ d + 1) (hr : r ≤ d) (x : Rat) : ev (slopes r p) x = pe (d - r) (drs r (co p)) x := by
  rw [ev_pe x (d - r) _ (by rw [slopes_len2]; omega), co_slopes]
theorem due_ge {x : Rat} {l r : List Rat} : ∀ (m : Nat) (e : Nat), (e : Int) ≤ dueN x l r m → ∀ o, o ≤ e → sameO x l r o := by
  intro m e h o ho
  apply Classical.byContradiction
  intro hc
  -- the first order at which they differ
  have first : ∀ g, (∃ k, k ≤ g ∧ ¬ sameO x l r k) → ∃ k, k ≤ g ∧ ¬ sameO x l r k ∧ ∀ i, i < k → sameO x l r i := by
    intro g
    induction g using Nat.strongRecOn with
    | _ g ih =>
      rintro ⟨k, k1, k2⟩
      by_cases e : ∃ i, i < k ∧ ¬ sameO x l r i
      · obtain ⟨i, i1, i2⟩ := e
        obtain ⟨a, a1, a2, a3⟩ := ih i (by omega) ⟨i, Nat.le_refl i, i2⟩
        exact ⟨a, by omega, a2, a3⟩
      · exact ⟨k, k1, k2, fun i hi => Classical.byContradiction fun z => e ⟨i, hi, z⟩⟩
  obtain ⟨k, k1, k2, k3⟩ := first o ⟨o, Nat.le_refl o, hc⟩
  by_cases hm : k < m
  · rw [dueN_stop k3 k2 m hm] at h; omega
  · rw [dueN_all m (fun i hi => k3 i (by omega))] at h; omega
/-! ### blossoms -/
theorem gD_append0 (l : List Rat) (k : Nat) : (l ++ [0]).getD k 0 = l.getD k 0 := by
  by_cases h : k < l.length
  · exact gD_app h
  · rw [gD_app2 (by omega), List.getD_eq_getElem?_getD (l := l), List.getElem?_eq_none (l := l) (by omega)]
    by_cases e : k - l.length = 0
    · rw [e]; rfl
    · rw [List.getD_eq_getElem?_getD, List.getElem?_eq_none (by simp; omega)]
theorem gD_set (f : List Rat) (i k : Nat) (v : Rat) (h : i < f.length) : (f.set i v).getD k 0 = if k = i then v else f.getD k 0 := by
  rw [List.getD_eq_getElem?_getD, List.getElem?_set]
  by_cases e : i = k
  · subst e
    rw [if_pos rfl, if_pos h, if_pos rfl]; rfl
  · rw [if_neg e, if_neg (Ne.symm e)]; rfl
theorem syIn_at (l : List Rat) (u : Rat) : ∀ (i k : Nat), i ≤ l.length → (syIn l u i).getD k 0 = if 1 ≤ k ∧ k ≤ i then l.getD k 0 + l.getD (k - 1) 0 * u else l.getD k 0
  | 0, k, _ => by
    rw [if_neg (by omega)]; exact gD_append0 l k
  | i + 1, k, h => by
    show ((syIn l u i).set (i + 1) ((syIn l u i).getD (i + 1) 0 + l.getD i 0 * u)).getD k 0 = _
    rw [gD_set _ _ _ _ (by rw [syIn_len]; omega), syIn_at l u i k (by omega), syIn_at l u i (i + 1) (by omega)]
    by_cases e : k = i + 1
    · subst e
      rw [if_pos rfl, if_neg (by omega), if_pos (by omega)]; rfl
    · rw [if_neg e]
      by_cases e2 : 1 ≤ k ∧ k ≤ i
      · rw [if_pos e2, if_pos (by omega)]
      · rw [if_neg e2, if_neg (by omega)]
theorem syStep_at (l : List Rat) (u : Rat) (k : Nat) : (syStep l u).getD (k + 1) 0 = l.getD (k + 1) 0 + l.getD k 0 * u := by
  unfold syStep
  rw [syIn_at l u _ _ (Nat.le_refl _)]
  by_cases e : k + 1 ≤ l.length
  · rw [if_pos (by omega)]; rfl
  · rw [if_neg (by omega)]
    have e2 : l.getD k 0 = 0 := by rw [List.getD_eq_getElem?_getD, List.getElem?_eq_none (by omega)]; rfl
    rw [e2]; grind
theorem syStep_0 (l : List Rat) (u : Rat) : (syStep l u).getD 0 0 = l.getD 0 0 := by
  unfold syStep
  rw [syIn_at l u _ _ (Nat.le_refl _), if_neg (by omega)]
theorem syAll_snoc : ∀ (us l : List Rat) (u : Rat), syAll l (us ++ [u]) = syStep (syAll l us) u
  | [], l, u => rfl
  | a :: us, l, u => syAll_snoc us (syStep l a) u
theorem syAll_rev : ∀ (us : List Rat) (k : Nat), (syAll [1] us.reverse).getD k 0 = es us k
  | [], 0 => rfl
  | [], k + 1 => rfl
  | u :: us, 0 => by
    rw [List.reverse_cons, syAll_snoc, syStep_0, syAll_rev us 0, es_zero, es_zero]
  | u :: us, k + 1 => by
    rw [List.reverse_cons, syAll_snoc, syStep_at, syAll_rev us (k + 1), syAll_rev us k, es_cons]; grind
theorem syAll_at (us : List Rat) (k : Nat) : (syAll [1] us).getD k 0 = es us k := by
  have := syAll_rev us.reverse k
  rw [List.reverse_reverse] at this
  rw [this]
  exact es_perm us.reverse_perm k
theorem chz_ch : ∀ n : Nat, n < 5 → ∀ k : Nat, k < 5 → ((chz (n : Int) k : Int) : Rat) = ch n k := by decide +kernel
theorem blIn_sm (n : Int) (told : List Rat) : ∀ (cs : List Rat) (acc : Rat) (k : Nat), blIn n told acc k cs = acc + sm cs.length (fun i => cs.getD i 0 * (told.getD (k + i) 0 * (1 / (chz n (k + i) : Rat))))
  | [], acc, k => by
    show acc = acc + 0
    grind
  | c :: cs, acc, k => by
    show blIn n told (acc + c * (told.getD k 0 * (1 / (chz n k : Rat)))) (k + 1) cs = _
    rw [blIn_sm n told cs, List.length_cons, sm_head]
    have e : sm cs.length (fun i => cs.getD i 0 * (told.getD (k + 1 + i) 0 * (1 / (chz n (k + 1 + i) : Rat)))) = sm cs.length (fun i => (c :: cs).getD (i + 1) 0 * (told.getD (k + (i + 1)) 0 * (1 / (chz n (k + (i + 1)) : Rat)))) := sm_congr fun i _ => by
      rw [show k + 1 + i = k + (i + 1) by omega]; rfl
    rw [e]
    show _ = acc + (c * (told.getD (k + 0) 0 * (1 / (chz n (k + 0) : Rat))) + _)
    rw [Nat.add_zero]; grind
theorem sm_more (f : Nat → Rat) : ∀ (a b : Nat), (∀ i, a ≤ i → i < a + b → f i = 0) → sm (a + b) f = sm a f
  | a, 0, _ => rfl
  | a, b + 1, h => by
    show sm (a + b) f + f (a + b) = _
    rw [sm_more f a b (fun i h1 h2 => h i h1 (by omega)), h (a + b) (by omega) (by omega)]; grind
theorem blossom_bl {p us : List Rat} (h4 : us.length ≤ 4) (hp : p.length ≤ us.length + 1) : blossom p us = bl us.length (co p) us := by
  unfold blossom bl
  rw [blIn_sm]
  have e0 : sm (us.length + 1) (fun k => co p k * (es us k / ch us.length k)) = sm p.length (fun k => co p k * (es us k / ch us.length k)) := by
    have := sm_more (fun k => co p k * (es us k / ch us.length k)) p.length (us.length + 1 - p.length) (fun i h1 h2 => by
      have : co p i = 0 := by show p.getD i 0 = 0; rw [List.getD_eq_getElem?_getD, List.getElem?_eq_none h1]; rfl
      rw [this]; grind)
    rw [show p.length + (us.length + 1 - p.length) = us.length + 1 by omega] at this
    exact this
  rw [e0]
  have e1 : sm p.length (fun i => p.getD i 0 * ((syAll [1] us).getD (0 + i) 0 * (1 / (chz (us.length : Int) (0 + i) : Rat)))) = sm p.length (fun k => co p k * (es us k / ch us.length k)) := sm_congr fun i hi => by
    rw [Nat.zero_add, syAll_at, chz_ch us.length (by omega) i (by omega)]
    show p.getD i 0 * _ = p.getD i 0 * _
    grind
  rw [e1]; grind
end Bc
end
section
set_option Elab.async false
set_option linter.all false
set_option maxRecDepth 100000
set_option exponentiation.threshold 200000
namespace Bc
/-! ### a knot among the others -/
theorem run_end (kn : List Rat) (x : Rat) : ∀ (g p : Nat), kn.length - p = g → p ≤ kn.length → ∃ q, p ≤ q ∧ q ≤ kn.length ∧ (∀ i, p ≤ i → i < q → kn.getD i 0 = x) ∧ (q < kn.length → kn.getD q 0 ≠ x)
  | 0, p, h, hp => ⟨p, Nat.le_refl p, hp, fun i h1 h2 => by omega, fun h1 => by omega⟩
  | g + 1, p, h, hp => by
    by_cases e : kn.getD p 0 = x
    · obtain ⟨q, q1, q2, q3, q4⟩ := run_end kn x g (p + 1) (by omega) (by omega)
      refine ⟨q, by omega, q2, fun i h1 h2 => ?_, q4⟩
      by_cases ei : i = p
      · rw [ei]; exact e
      · exact q3 i (by omega) h2
    · exact ⟨p, Nat.le_refl p, hp, fun i h1 h2 => by omega, fun _ => e⟩
theorem cnt_run {kn : List Rat} {x : Rat} {p q : Nat} (hpq : p ≤ q) (hq : q ≤ kn.length) (h : ∀ i, i < kn.length → (kn.getD i 0 = x ↔ p ≤ i ∧ i < q)) : cnt kn x = q - p := by
  unfold cnt
  have e : kn = kn.take p ++ ((kn.drop p).take (q - p) ++ (kn.drop p).drop (q - p)) := by rw [List.take_append_drop, List.take_append_drop]
  rw [e, List.countP_append, List.countP_append]
  have h1 : (kn.take p).countP (fun y => decide (y = x)) = 0 := by
    rw [List.countP_eq_zero]
    intro a ha
    obtain ⟨i, hi, rfl⟩ := List.getElem_of_mem ha
    rw [List.length_take] at hi
    have := h i (by omega)
    rw [List.getElem_take]
    have e2 : kn.getD i 0 = kn[i] := by rw [List.getD_eq_getElem?_getD, List.getElem?_eq_getElem (by omega)]; rfl
    rw [e2] at this
    intro z
    have := this.mp (of_decide_eq_true z)
    omega
  have h2 : ((kn.drop p).take (q - p)).countP (fun y => decide (y = x)) = q - p := by
    have hl : ((kn.drop p).take (q - p)).length = q - p := by rw [List.length_take, List.length_drop]; omega
    rw [← hl, hl]
    have : ((kn.drop p).take (q - p)).countP (fun y => decide (y = x)) = ((kn.drop p).take (q - p)).length := by
      rw [List.countP_eq_length]
      intro a ha
      obtain ⟨i, hi, rfl⟩ := List.getElem_of_mem ha
      rw [hl] at hi
      rw [List.getElem_take, List.getElem_drop]
      have := (h (p + i) (by omega)).mpr ⟨by omega, by omega⟩
      have e2 : kn.getD (p + i) 0 = kn[p + i] := by rw [List.getD_eq_getElem?_getD, List.getElem?_eq_getElem (by omega)]; rfl
      rw [e2] at this
      exact decide_eq_true this
    rw [this, hl]
  have h3 : ((kn.drop p).drop (q - p)).countP (fun y => decide (y = x)) = 0 := by
    rw [List.countP_eq_zero, List.drop_drop]
    intro a ha
    obtain ⟨i, hi, rfl⟩ := List.getElem_of_mem ha
    rw [List.length_drop] at hi
    rw [List.getElem_drop]
    have := h (p + (q - p) + i) (by omega)
    have e2 : kn.getD (p + (q - p) + i) 0 = kn[p + (q - p) + i] := by rw [List.getD_eq_getElem?_getD, List.getElem?_eq_getElem (by omega)]; rfl
    rw [e2] at this
    intro z
    have := this.mp (of_decide_eq_true z)
    omega
  rw [h1, h2, h3]; omega
structure Knot (d : Nat) (kn : List Rat) (x : Rat) (p q : Nat) : Prop where
  p1 : d < p
  pq : p < q
  qn : q + d + 1 ≤ kn.length
  at_ : ∀ i, p ≤ i → i < q → kn.getD i 0 = x
  bel : ∀ i, i < p → kn.getD i 0 < x
  abo : ∀ i, q ≤ i → i < kn.length → x < kn.getD i 0
  cn : cnt kn x = q - p
theorem knot_of {d : Nat} {kn : List Rat} {x : Rat} (h : KnG d kn) (hx : x ∈ kn) (lo : kn.getD 0 0 < x) (hi : x < kn.getD (kn.length - 1) 0) : ∃ q, Knot d kn x (idx kn x) q := by
  have l2 := h.len2
  have il := idx_lt hx
  have ia : kn.getD (idx kn x) 0 = x := getD_at (idx_at hx)
  obtain ⟨q, q1, q2, q3, q4⟩ := run_end kn x _ (idx kn x) rfl (Nat.le_of_lt il)
  have hpq : idx kn x < q := by
    apply Classical.byContradiction
    intro hc
    have : q = idx kn x := by omega
    subst this
    exact q4 il ia
  have bel : ∀ i, i < idx kn x → kn.getD i 0 < x := fun i hi' => by
    have a := h.so i (idx kn x) (by omega) il
    have b := idx_no hi' _ (at_getD (by omega))
    rw [ia] at a
    grind
  have hqn : q < kn.length := by
    apply Classical.byContradiction
    intro hc
    have := q3 (kn.length - 1) (by omega) (by omega)
    grind
  have abo : ∀ i, q ≤ i → i < kn.length → x < kn.getD i 0 := fun i h1 h2 => by
    have a := h.so (idx kn x) q (by omega) hqn
    have b := q4 hqn
    have c := h.so q i h1 h2
    rw [ia] at a
    grind
  refine ⟨q, ?_, hpq, ?_, q3, bel, abo, ?_⟩
  · apply Classical.byContradiction
    intro hc
    have := h.hd (idx kn x) (by omega)
    grind
  · apply Classical.byContradiction
    intro hc
    have h1 := h.la (q - 1) (by omega) (by omega)
    have h2 := q3 (q - 1) (by omega) (by omega)
    grind
  · refine cnt_run (by omega) q2 fun i hi' => ⟨fun e => ⟨?_, ?_⟩, fun e => q3 i e.1 e.2⟩
    · apply Classical.byContradiction
      intro hc
      have := bel i (by omega)
      grind
    · apply Classical.byContradiction
      intro hc
      have := abo i (by omega) hi'
      grind
section
variable {d : Nat} {kn c : List Rat} {x : Rat} {q : Nat}
theorem Knot.mult (k : Knot d kn x (idx kn x) q) (h : KnG d kn) : q - idx kn x ≤ d + 1 := by
  apply Classical.byContradiction
  intro hc
  have := k.qn
  have a := h.mu (idx kn x) (by omega)
  have b := k.at_ (idx kn x) (Nat.le_refl _) k.pq
  have e := k.at_ (idx kn x + d + 1) (by omega) (by omega)
  grind
theorem Knot.tp (k : Knot d kn x (idx kn x) q) {i : Nat} (h1 : idx kn x ≤ i) (h2 : i < q) : te kn i = x := by
  have := k.qn
  rw [te_tk (by omega)]; exact k.at_ i h1 h2
/-- the piece number j -/
def Pj (d : Nat) (kn c : List Rat) (j : Nat) : Nat → Rat := co (ppoly (te kn) (tk c) d j)
theorem rem_of (h : KnG d kn) (hn : c.length + d + 1 = kn.length) (k : Knot d kn x (idx kn x) q) (hs : ¬ smAt x d (pieces kn c d) ≤ (d : Int) - (cnt kn x : Int)) :
    Rem d c.length (te kn) (tk c) (Pj d kn c) (idx kn x) (q - 1) := by
  have S := h.spl hn
  have k1 := k.p1
  have k2 := k.pq
  have k3 := k.qn
  have km := k.mult h
  have tx : te kn (idx kn x) = x := k.tp (Nat.le_refl _) k2
  have tl : te kn (q - 1) = x := k.tp (by omega) (by omega)
  have tq : te kn (idx kn x - 1) < te kn (idx kn x) := by rw [tx, te_tk (by omega)]; exact k.bel _ (by omega)
  have tr : te kn (q - 1) < te kn (q - 1 + 1) := by rw [tl, te_tk (by omega), show q - 1 + 1 = q by omega]; exact k.abo _ (Nat.le_refl _) (by omega)
  refine ⟨S, fun j hj x => ?_, by omega, tq, by omega, fun i h1 h2 => ?_, tr, fun r hr => ?_⟩
  · rw [← ev_ppoly, ev_pe x d _ (ppoly_lenB _ _ _ _)]; rfl
  · rw [tx]; exact k.tp h1 (by omega)
  · have hsm := smAt_knot (c := tk c) (d := d) S.mono (j := idx kn x - 1) (k := q - 1) (m := kn.length - 1) (by omega) (by omega) (by rw [show idx kn x - 1 + 1 = idx kn x by omega]; exact tq) tr (fun i h1 h2 => by rw [tl]; exact k.tp (by omega) (by omega))
    rw [tl, ← pieces_te h hn] at hsm
    rw [hsm, ord_due, k.cn] at hs
    have hle : ((d - (q - 1 - idx kn x) : Nat) : Int) ≤ dueN x (ppoly (te kn) (tk c) d (idx kn x - 1)) (ppoly (te kn) (tk c) d (q - 1)) (d + 1) := by omega
    have hd := due_ge (d + 1) _ hle r hr
    have hd' : ev (slopes r (ppoly (te kn) (tk c) d (idx kn x - 1))) x = ev (slopes r (ppoly (te kn) (tk c) d (q - 1))) x := hd
    rw [ev_slopes (ppoly_lenB _ _ _ _) (by omega), ev_slopes (ppoly_lenB _ _ _ _) (by omega)] at hd'
    rw [tx]; exact hd'
/-! ### the other knots -/
theorem kless_len (hx : x ∈ kn) : (kless kn x).length = kn.length - 1 := by
  have := idx_lt hx
  unfold kless
  rw [List.length_append, List.length_take, List.length_drop]; omega
theorem kless_at (hx : x ∈ kn) {i : Nat} : (kless kn x).getD i 0 = if i < idx kn x then kn.getD i 0 else kn.getD (i + 1) 0 := by
  have hl := idx_lt hx
  unfold kless
  by_cases e : i < idx kn x
  · rw [if_pos e, gD_app (by rw [List.length_take]; omega), gD_take e]
  · rw [if_neg e, gD_app2 (by rw [List.length_take]; omega), List.length_take, List.getD_eq_getElem?_getD, List.getElem?_drop, List.getD_eq_getElem?_getD]
    rw [show idx kn x + 1 + (i - min (idx kn x) kn.length) = i + 1 by omega]
theorem te_kless (k : Knot d kn x (idx kn x) q) (hx : x ∈ kn) : te (kless kn x) = less1 (te kn) (idx kn x) := by
  have hl := idx_lt hx
  have k1 := k.p1
  have k2 := k.pq
  have k3 := k.qn
  funext i
  show (kless kn x).getD (min i ((kless kn x).length - 1)) 0 = if i < idx kn x then te kn i else te kn (i + 1)
  rw [kless_len hx, kless_at hx]
  by_cases e : i < idx kn x
  · rw [if_pos e, Nat.min_eq_left (by omega), if_pos e, te_tk (by omega)]; rfl
  · rw [if_neg e]
    by_cases e2 : i ≤ kn.length - 1 - 1
    · rw [Nat.min_eq_left e2, if_neg e, te_tk (by omega)]; rfl
    · rw [Nat.min_eq_right (by omega), if_neg (by omega)]
      show _ = kn.getD (min (i + 1) (kn.length - 1)) 0
      rw [Nat.min_eq_right (by omega)]
      congr 1; omega
theorem kless_mem (y : Rat) (h : y ∈ kless kn x) : y ∈ kn := by
  unfold kless at h
  rcases List.mem_append.mp h with h | h
  · exact List.mem_of_mem_take h
  · exact List.mem_of_mem_drop h
theorem kless_kn (h : KnG d kn) (hn : c.length + d + 1 = kn.length) (k : Knot d kn x (idx kn x) q) (hx : x ∈ kn) : KnG d (kless kn x) := by
  have S := h.spl hn
  have hl := idx_lt hx
  have k1 := k.p1
  have k2 := k.pq
  have k3 := k.qn
  have kl := kless_len hx
  have S' := less1_spl S (p := idx kn x) (by omega) k1 (by omega)
  rw [← te_kless k hx] at S'
  have at' : ∀ i, i < kn.length - 1 → (kless kn x).getD i 0 = te (kless kn x) i := fun i hi => (te_tk (by omega)).symm
  have l16 := h.len16
  have e0 : (kless kn x).getD 0 0 = kn.getD 0 0 := by rw [kless_at hx, if_pos (by omega)]
  have e1 : (kless kn x).getD ((kless kn x).length - 1) 0 = kn.getD (kn.length - 1) 0 := by
    rw [kless_at hx, kl, if_neg (by omega)]
    congr 1; omega
  refine ⟨h.d4, by omega, by omega, fun i j h1 h2 => ?_, fun i h1 => ?_, fun i h1 h2 => ?_, fun i h1 => ?_, fun y hy => h.gr y (kless_mem y hy), ?_⟩
  · rw [at' i (by omega), at' j (by omega)]; exact S'.mono i j h1
  · rw [kless_at hx, kless_at hx, if_pos (by omega), if_pos (by omega)]; exact h.hd i h1
  · rw [at' i (by omega), at' _ (by omega), S'.last i (by omega), S'.last ((kless kn x).length - 1) (by omega)]
  · rw [at' i (by omega), at' _ (by omega)]; exact S'.mult i (by omega)
  · rw [e0, e1]; exact h.ge
end
end Bc
end
section
set_option Elab.async false
set_option linter.all false
set_option maxRecDepth 100000
set_option exponentiation.threshold 200000
namespace Bc
/-! ### values as the law reckons them -/
theorem lsum_sm : ∀ (l : List Rat) (acc : Rat), lsum acc l = acc + sm l.length (fun i => l.getD i 0)
  | [], acc => by show acc = acc + 0; grind
  | a :: l, acc => by
    show lsum (acc + a) l = _
    rw [lsum_sm l, List.length_cons, sm_head]
    show _ = acc + (a + sm l.length (fun i => l.getD i 0))
    grind
theorem lval_sm (t c : Nat → Rat) (d : Nat) (x : Rat) (n : Nat) : lval t c d x n = sm n (fun i => c i * lbas t x d i) := by
  unfold lval
  rw [lsum_sm, terms_len]
  have : sm n (fun i => (terms t c d x n).getD i 0) = sm n (fun i => c i * lbas t x d i) := sm_congr fun i hi => getD_at (terms_at hi)
  rw [this]; grind
theorem lbas_congr {t t' : Nat → Rat} (x : Rat) : ∀ d i, (∀ k, i ≤ k → k ≤ i + d + 1 → t k = t' k) → lbas t x d i = lbas t' x d i
  | 0, i, h => by
    show (if ¬ x < t i ∧ x < t (i + 1) then (1 : Rat) else 0) = if ¬ x < t' i ∧ x < t' (i + 1) then 1 else 0
    rw [h i (by omega) (by omega), h (i + 1) (by omega) (by omega)]
  | d + 1, i, h => by
    show (if t (i + 1) = t (i + d + 2) then (if t i = t (i + d + 1) then 0 else (x - t i) / (t (i + d + 1) - t i) * lbas t x d i)
      else (if t i = t (i + d + 1) then 0 else (x - t i) / (t (i + d + 1) - t i) * lbas t x d i) + (t (i + d + 2) - x) / (t (i + d + 2) - t (i + 1)) * lbas t x d (i + 1)) = _
    rw [lbas_congr x d i (fun k h1 h2 => h k h1 (by omega)), lbas_congr x d (i + 1) (fun k h1 h2 => h k (by omega) (by omega)), h i (by omega) (by omega), h (i + 1) (by omega) (by omega), h (i + d + 1) (by omega) (by omega), h (i + d + 2) (by omega) (by omega)]
    rfl
theorem div_zero' (a : Rat) : a / 0 = 0 := by rw [Rat.div_def, Rat.inv_zero]; grind
theorem lbas_N {t : Nat → Rat} (mono : ∀ a b, a ≤ b → t a ≤ t b) {j : Nat} {x : Rat} (h1 : t j ≤ x) (h2 : x < t (j + 1)) : ∀ d i, lbas t x d i = N t d i j x
  | 0, i => by
    show (if ¬ x < t i ∧ x < t (i + 1) then (1 : Rat) else 0) = if i = j then 1 else 0
    by_cases e : i = j
    · subst e
      rw [if_pos ⟨by grind, h2⟩, if_pos rfl]
    · rw [if_neg e, if_neg]
      rintro ⟨h3, h4⟩
      by_cases e2 : i < j
      · have := mono (i + 1) j (by omega); grind
      · have := mono (j + 1) i (by omega); grind
  | d + 1, i => by
    have ea : (if t i = t (i + d + 1) then 0 else (x - t i) / (t (i + d + 1) - t i) * lbas t x d i) = (x - t i) / (t (i + d + 1) - t i) * N t d i j x := by
      by_cases e : t i = t (i + d + 1)
      · rw [if_pos e, ← e, show t i - t i = 0 by grind, div_zero']; grind
      · rw [if_neg e, lbas_N mono h1 h2 d i]
    show (if t (i + 1) = t (i + d + 2) then (if t i = t (i + d + 1) then 0 else (x - t i) / (t (i + d + 1) - t i) * lbas t x d i)
      else (if t i = t (i + d + 1) then 0 else (x - t i) / (t (i + d + 1) - t i) * lbas t x d i) + (t (i + d + 2) - x) / (t (i + d + 2) - t (i + 1)) * lbas t x d (i + 1)) = _
    rw [N_succ, ea, lbas_N mono h1 h2 d (i + 1)]
    by_cases e : t (i + 1) = t (i + d + 2)
    · rw [if_pos e, ← e, show t (i + 1) - t (i + 1) = 0 by grind, div_zero' (t (i + 1) - x)]; grind
    · rw [if_neg e]
theorem sm_split (f : Nat → Rat) (a : Nat) : ∀ b, sm (a + b) f = sm a f + sm b (fun i => f (a + i))
  | 0 => by show sm a f = sm a f + 0; grind
  | b + 1 => by
    show sm (a + b) f + f (a + b) = sm a f + (sm b (fun i => f (a + i)) + f (a + b))
    rw [sm_split f a b]; grind
theorem sm_window {f : Nat → Rat} {n d j : Nat} (hd : d ≤ j) (hj : j < n) (h : ∀ i, (i < j - d ∨ j < i) → f i = 0) : sm n f = sm (d + 1) (fun r => f (j - d + r)) := by
  have e1 := sm_more f (j + 1) (n - (j + 1)) (fun i h1 h2 => h i (by omega))
  rw [show j + 1 + (n - (j + 1)) = n by omega] at e1
  have e2 := sm_split f (j - d) (d + 1)
  rw [show j - d + (d + 1) = j + 1 by omega] at e2
  rw [e1, e2, sm_zero (n := j - d) (f := f) (fun i hi => h i (.inl hi))]; grind
theorem find_iv {t : Nat → Rat} {x : Rat} (h0 : t 0 ≤ x) : ∀ m, x < t m → ∃ j, j < m ∧ t j ≤ x ∧ x < t (j + 1)
  | 0, h => by grind
  | m + 1, h => by
    by_cases e : x < t m
    · obtain ⟨j, h1, h2⟩ := find_iv h0 m e
      exact ⟨j, by omega, h2⟩
    · exact ⟨m, by omega, by grind, h⟩
section
variable {d : Nat} {kn c : List Rat} {x : Rat} {q : Nat}
theorem lval_te (hn : c.length + d + 1 = kn.length) (y : Rat) : lval (tk kn) (tk c) d y c.length = sm c.length (fun i => tk c i * lbas (te kn) y d i) := by
  rw [lval_sm]
  exact sm_congr fun i hi => by rw [lbas_congr y d i (fun k h1 h2 => (te_tk (by omega)).symm)]
theorem lval_iv (S : Spl d c.length (te kn)) (hn : c.length + d + 1 = kn.length) {j : Nat} {y : Rat} (h1 : te kn j ≤ y) (h2 : y < te kn (j + 1)) :
    lval (tk kn) (tk c) d y c.length = sm (d + 1) (fun r => tk c (j - d + r) * N (te kn) d (j - d + r) j y) := by
  have hj : te kn j < te kn (j + 1) := by grind
  have hd := S.low hj
  have hjn := S.high hj
  rw [lval_te hn]
  have e : sm c.length (fun i => tk c i * lbas (te kn) y d i) = sm c.length (fun i => tk c i * N (te kn) d i j y) := sm_congr fun i _ => by rw [lbas_N S.mono h1 h2]
  rw [e]
  exact sm_window hd hjn fun i hi => by rw [N_out _ _ _ _ _ (by omega)]; grind
/-! ### the row of the other knots -/
theorem rowN_len (pcs : List Pc) (d : Nat) (kn : List Rat) : ∀ m, (rowN pcs d kn m).length = m
  | 0 => rfl
  | m + 1 => by
    show (rowN pcs d kn m ++ _).length = _
    rw [List.length_append, rowN_len pcs d kn m]; rfl
theorem rowN_at (pcs : List Pc) (d : Nat) (kn : List Rat) {i : Nat} : ∀ m, i < m → (rowN pcs d kn m).getD i 0 = blossom (polyOver pcs (tk kn (firstN (tk kn) i d))) (wincut kn i d)
  | 0, h => by omega
  | m + 1, h => by
    show (rowN pcs d kn m ++ [_]).getD i 0 = _
    by_cases e : i < m
    · rw [gD_app (by rw [rowN_len]; exact e)]; exact rowN_at pcs d kn m e
    · have : i = m := by omega
      subst this
      rw [gD_app2 (by rw [rowN_len]; exact Nat.le_refl _), rowN_len, Nat.sub_self]; rfl
theorem ivN_memB {t : Nat → Rat} {i q : Nat} : ∀ {n}, q ∈ ivN t i n → i ≤ q ∧ q < i + n ∧ t q ≠ t (q + 1)
  | 0, h => by cases h
  | n + 1, h => by
    have h' : q ∈ (if t (i + n) = t (i + n + 1) then ivN t i n else ivN t i n ++ [i + n]) := h
    by_cases e : t (i + n) = t (i + n + 1)
    · rw [if_pos e] at h'
      obtain ⟨h1, h2, h3⟩ := ivN_memB h'
      exact ⟨h1, by omega, h3⟩
    · rw [if_neg e] at h'
      rcases List.mem_append.mp h' with h' | h'
      · obtain ⟨h1, h2, h3⟩ := ivN_memB h'
        exact ⟨h1, by omega, h3⟩
      · rw [List.mem_singleton.mp h']
        exact ⟨by omega, by omega, e⟩
theorem ivN_ne {t : Nat → Rat} {i : Nat} : ∀ {n}, t i ≠ t (i + n) → ivN t i n ≠ []
  | 0, h => absurd rfl h
  | n + 1, h => by
    show (if t (i + n) = t (i + n + 1) then ivN t i n else ivN t i n ++ [i + n]) ≠ []
    by_cases e : t (i + n) = t (i + n + 1)
    · rw [if_pos e]
      exact ivN_ne (by rw [e]; exact h)
    · rw [if_neg e]; simp
theorem ivN_congr {t t' : Nat → Rat} {i : Nat} : ∀ {n}, (∀ k, i ≤ k → k ≤ i + n → t k = t' k) → ivN t i n = ivN t' i n
  | 0, _ => rfl
  | n + 1, h => by
    show (if t (i + n) = t (i + n + 1) then ivN t i n else ivN t i n ++ [i + n]) = _
    rw [ivN_congr (n := n) (fun k h1 h2 => h k h1 (by omega)), h (i + n) (by omega) (by omega), h (i + n + 1) (by omega) (by omega)]
    rfl
theorem wincut_win {kn : List Rat} {i d : Nat} (h : i + d + 1 ≤ kn.length) : wincut kn i d = win (te kn) i d := by
  unfold wincut win
  refine List.ext_getElem? fun a => ?_
  rw [List.getElem?_take, List.getElem?_drop, List.getElem?_map]
  by_cases e : a < d
  · rw [if_pos e, List.getElem?_range e, at_getD (show i + 1 + a < kn.length by omega)]
    show _ = some (te kn (i + 1 + a))
    rw [te_tk (by omega)]; rfl
  · rw [if_neg e, List.getElem?_eq_none (by rw [List.length_range]; omega)]; rfl
theorem first_at {t : Nat → Rat} {i d : Nat} (h : t i ≠ t (i + d + 1)) : i ≤ firstN t i d ∧ firstN t i d ≤ i + d ∧ t (firstN t i d) ≠ t (firstN t i d + 1) := by
  have ne := ivN_ne (t := t) (i := i) (n := d + 1) h
  have hm : firstN t i d ∈ ivN t i (d + 1) := by
    unfold firstN
    cases hc : ivN t i (d + 1) with
    | nil => exact absurd hc ne
    | cons a r => exact List.mem_cons_self
  obtain ⟨h1, h2, h3⟩ := ivN_memB hm
  exact ⟨h1, by omega, h3⟩
/-- the new coefficients are blossoms of old pieces -/
theorem row_bl (h : KnG d kn) (hn : c.length + d + 1 = kn.length) (k : Knot d kn x (idx kn x) q) (hx : x ∈ kn) {i : Nat} (hi : i < c.length - 1) :
    ∃ r, i ≤ r ∧ r ≤ i + d ∧ less1 (te kn) (idx kn x) r < less1 (te kn) (idx kn x) (r + 1) ∧ polyOver (pieces kn c d) (tk (kless kn x) (firstN (tk (kless kn x)) i d)) = ppoly (te kn) (tk c) d (old (idx kn x) r) ∧
      tk (rowFrom (pieces kn c d) d (kless kn x)) i = bl d (Pj d kn c (old (idx kn x) r)) (win (less1 (te kn) (idx kn x)) i d) := by
  have S := h.spl hn
  have hl := idx_lt hx
  have k1 := k.p1
  have k2 := k.pq
  have k3 := k.qn
  have kl := kless_len hx
  have hk := kless_kn h hn k hx
  have d4 := h.d4
  have S' := less1_spl S (p := idx kn x) (by omega) k1 (by omega)
  have ef : firstN (tk (kless kn x)) i d = firstN (te (kless kn x)) i d := by
    unfold firstN
    rw [ivN_congr (t := tk (kless kn x)) (t' := te (kless kn x)) (n := d + 1) fun k h1 h2 => (te_tk (by omega)).symm]
  have hne : te (kless kn x) i ≠ te (kless kn x) (i + d + 1) := by
    rw [te_kless k hx]
    have := S'.mult i (by omega)
    grind
  obtain ⟨f1, f2, f3⟩ := first_at hne
  have tp : te kn (idx kn x - 1) < te kn (idx kn x) := by
    rw [k.tp (Nat.le_refl _) k2, te_tk (by omega)]; exact k.bel _ (by omega)
  have f3' : less1 (te kn) (idx kn x) (firstN (te (kless kn x)) i d) < less1 (te kn) (idx kn x) (firstN (te (kless kn x)) i d + 1) := by
    have a := S'.mono (firstN (te (kless kn x)) i d) (firstN (te (kless kn x)) i d + 1) (by omega)
    rw [te_kless k hx] at f3 a ⊢
    grind
  have f4 := old_iv tp (by omega) f3'
  have ep : polyOver (pieces kn c d) (tk (kless kn x) (firstN (tk (kless kn x)) i d)) = ppoly (te kn) (tk c) d (old (idx kn x) (firstN (te (kless kn x)) i d)) := by
    rw [ef, ← te_tk (by omega), te_kless k hx, ← old_at, ← te_kless k hx, pieces_te h hn]
    have := S.high f4
    exact polyOver_at S.mono f4 (by omega)
  refine ⟨firstN (te (kless kn x)) i d, f1, f2, f3', ep, ?_⟩
  show (rowN (pieces kn c d) d (kless kn x) ((kless kn x).length - d - 1)).getD i 0 = _
  have ew : wincut (kless kn x) i d = win (less1 (te kn) (idx kn x)) i d := by rw [wincut_win (by omega), te_kless k hx]
  rw [rowN_at _ _ _ _ (by omega), ep, ew]
  have hw := win_len (less1 (te kn) (idx kn x)) i d
  rw [blossom_bl (by omega) (by rw [hw]; exact ppoly_lenB _ _ _ _), hw]; rfl
/-- .. and make the same function -/
theorem row_same (h : KnG d kn) (hn : c.length + d + 1 = kn.length) (k : Knot d kn x (idx kn x) q) (hx : x ∈ kn) (hs : ¬ smAt x d (pieces kn c d) ≤ (d : Int) - (cnt kn x : Int)) {y : Rat} (h1 : kn.getD 0 0 ≤ y) (h2 : y < kn.getD (kn.length - 1) 0) :
    lval (tk (kless kn x)) (tk (rowFrom (pieces kn c d) d (kless kn x))) d y (rowFrom (pieces kn c d) d (kless kn x)).length = lval (tk kn) (tk c) d y c.length := by
  have S := h.spl hn
  have hl := idx_lt hx
  have k1 := k.p1
  have k2 := k.pq
  have k3 := k.qn
  have kl := kless_len hx
  have M := rem_of h hn k hs
  have S' := less1_spl S (p := idx kn x) (by omega) k1 (by omega)
  have hrl : (rowFrom (pieces kn c d) d (kless kn x)).length = c.length - 1 := by
    show (rowN _ _ _ _).length = _
    rw [rowN_len]; omega
  have S2 : Spl d (rowFrom (pieces kn c d) d (kless kn x)).length (te (kless kn x)) := by rw [hrl, te_kless k hx]; exact S'
  have t0 : te kn 0 = kn.getD 0 0 := te_tk (by omega)
  have tn : te kn c.length = kn.getD (kn.length - 1) 0 := by
    rw [te_tk (by omega)]; exact h.la _ (by omega) (by omega)
  obtain ⟨j, j1, j2, j3⟩ := find_iv (t := te kn) (by rw [t0]; exact h1) c.length (by rw [tn]; exact h2)
  have u0 : less1 (te kn) (idx kn x) 0 = kn.getD 0 0 := by
    show (if 0 < idx kn x then te kn 0 else _) = _
    rw [if_pos (by omega), t0]
  have un : less1 (te kn) (idx kn x) (c.length - 1) = kn.getD (kn.length - 1) 0 := by
    show (if c.length - 1 < idx kn x then _ else te kn (c.length - 1 + 1)) = _
    rw [if_neg (by omega), show c.length - 1 + 1 = c.length by omega, tn]
  obtain ⟨m, m1, m2, m3⟩ := find_iv (t := less1 (te kn) (idx kn x)) (by rw [u0]; exact h1) (c.length - 1) (by rw [un]; exact h2)
  have hm : less1 (te kn) (idx kn x) m < less1 (te kn) (idx kn x) (m + 1) := by grind
  rw [lval_iv S hn j2 j3, lval_iv S2 (by omega) (by rw [te_kless k hx]; exact m2) (by rw [te_kless k hx]; exact m3), te_kless k hx]
  rw [← M.pc j (by grind), M.same S' (c' := tk (rowFrom (pieces kn c d) d (kless kn x))) (fun i hi => ?_) hm y, M.piece hm m2 m3 j2 j3]
  obtain ⟨r, r1, r2, r3, _, r4⟩ := row_bl h hn k hx hi
  exact ⟨r, r1, r2, r3, r4⟩
theorem row_last (h : KnG d kn) (hn : c.length + d + 1 = kn.length) (k : Knot d kn x (idx kn x) q) (hx : x ∈ kn) (hs : ¬ smAt x d (pieces kn c d) ≤ (d : Int) - (cnt kn x : Int)) :
    (rowFrom (pieces kn c d) d (kless kn x)).length = c.length - 1 ∧ (rowFrom (pieces kn c d) d (kless kn x)).getD (c.length - 1 - 1) 0 = c.getD (c.length - 1) 0 := by
  have S := h.spl hn
  have hl := idx_lt hx
  have k1 := k.p1
  have k2 := k.pq
  have k3 := k.qn
  have kl := kless_len hx
  have M := rem_of h hn k hs
  have S' := less1_spl S (p := idx kn x) (by omega) k1 (by omega)
  have hrl : (rowFrom (pieces kn c d) d (kless kn x)).length = c.length - 1 := by
    show (rowN _ _ _ _).length = _
    rw [rowN_len]; omega
  refine ⟨hrl, ?_⟩
  have := M.last (by omega) (c' := tk (rowFrom (pieces kn c d) d (kless kn x))) (by omega) S' (fun i hi => by
    obtain ⟨r, r1, r2, r3, _, r4⟩ := row_bl h hn k hx hi
    exact ⟨r, r1, r2, r3, r4⟩)
  rw [show c.length - 1 - 1 = c.length - 2 by omega]
  exact this
end
end Bc
end
section
set_option Elab.async false
set_option linter.all false
set_option maxRecDepth 100000
set_option exponentiation.threshold 200000
namespace Bc
/-! ### sorted rows -/
theorem insL_cons (x y : Rat) (t : List Rat) : insL x (y :: t) = if x < y then x :: y :: t else y :: insL x t := by
  unfold insL
  show (y :: t).take (if x < y then 0 else insPos x t + 1) ++ [x] ++ (y :: t).drop (if x < y then 0 else insPos x t + 1) = _
  by_cases e : x < y
  · rw [if_pos e, if_pos e]; rfl
  · rw [if_neg e, if_neg e]; rfl
theorem insL_sorted (x : Rat) : ∀ l : List Rat, l.Pairwise (· ≤ ·) → (insL x l).Pairwise (· ≤ ·)
  | [], _ => List.pairwise_singleton _ _
  | y :: t, h => by
    rw [insL_cons]
    obtain ⟨h1, h2⟩ := List.pairwise_cons.mp h
    by_cases e : x < y
    · rw [if_pos e]
      refine List.pairwise_cons.mpr ⟨fun a ha => ?_, h⟩
      rcases List.mem_cons.mp ha with rfl | ha
      · grind
      · have := h1 a ha; grind
    · rw [if_neg e]
      refine List.pairwise_cons.mpr ⟨fun a ha => ?_, insL_sorted x t h2⟩
      rcases insL_mem ha with rfl | ha
      · grind
      · exact h1 a ha
theorem sortL_sorted : ∀ (l acc : List Rat), acc.Pairwise (· ≤ ·) → (sortL acc l).Pairwise (· ≤ ·)
  | [], acc, h => h
  | a :: l, acc, h => sortL_sorted l (insL a acc) (insL_sorted a acc h)
theorem insL_end (x : Rat) : ∀ l : List Rat, (∀ a ∈ l, a ≤ x) → insL x l = l ++ [x]
  | [], _ => rfl
  | y :: t, h => by
    have := h y List.mem_cons_self
    rw [insL_cons, if_neg (by grind), insL_end x t fun a ha => h a (List.mem_cons_of_mem _ ha)]; rfl
theorem sortL_self : ∀ (l acc : List Rat), (acc ++ l).Pairwise (· ≤ ·) → sortL acc l = acc ++ l
  | [], acc, _ => by rw [List.append_nil]; rfl
  | a :: l, acc, h => by
    show sortL (insL a acc) l = _
    have h1 : ∀ b ∈ acc, b ≤ a := fun b hb => (List.pairwise_append.mp h).2.2 b hb a List.mem_cons_self
    rw [insL_end a acc h1, sortL_self l (acc ++ [a]) (by rw [List.append_assoc]; exact h), List.append_assoc]; rfl
theorem onceL_mem : ∀ {l acc : List Rat} {a : Rat}, a ∈ onceL acc l → a ∈ acc ∨ a ∈ l
  | [], acc, a, h => .inl h
  | b :: l, acc, a, h => by
    rcases onceL_mem (l := l) (acc := acc ++ (if b ∈ acc then [] else [b])) h with h | h
    · rcases List.mem_append.mp h with h | h
      · exact .inl h
      · split at h
        · cases h
        · exact .inr (List.mem_singleton.mp h ▸ List.mem_cons_self)
    · exact .inr (List.mem_cons_of_mem _ h)
theorem onceL_incr : ∀ (l acc : List Rat), (acc ++ l).Pairwise (· ≤ ·) → acc.Pairwise (· < ·) → (onceL acc l).Pairwise (· < ·)
  | [], acc, _, h => h
  | b :: l, acc, h, h2 => by
    show (onceL (acc ++ (if b ∈ acc then [] else [b])) l).Pairwise _
    obtain ⟨p1, p2, p3⟩ := List.pairwise_append.mp h
    by_cases e : b ∈ acc
    · rw [if_pos e, List.append_nil]
      refine onceL_incr l acc (List.pairwise_append.mpr ⟨p1, (List.pairwise_cons.mp p2).2, fun a ha c hc => p3 a ha c (List.mem_cons_of_mem _ hc)⟩) h2
    · rw [if_neg e]
      refine onceL_incr l (acc ++ [b]) (by rw [List.append_assoc]; exact h) (List.pairwise_append.mpr ⟨h2, List.pairwise_singleton _ _, fun a ha c hc => ?_⟩)
      rw [List.mem_singleton.mp hc]
      have := p3 a ha b List.mem_cons_self
      have : a ≠ b := fun z => e (z ▸ ha)
      grind
theorem sorted_of {l : List Rat} (h : ∀ i j, i ≤ j → j < l.length → l.getD i 0 ≤ l.getD j 0) : l.Pairwise (· ≤ ·) := by
  rw [List.pairwise_iff_getElem]
  intro i j hi hj hij
  have := h i j (by omega) hj
  rw [List.getD_eq_getElem?_getD, List.getElem?_eq_getElem hi, List.getD_eq_getElem?_getD, List.getElem?_eq_getElem hj] at this
  exact this
theorem plcs_lt (kn kn2 : List Rat) {i : Nat} (h : i + 1 < (plcs kn kn2).length) : (plcs kn kn2).getD i 0 < (plcs kn kn2).getD (i + 1) 0 := by
  have hp : (plcs kn kn2).Pairwise (· < ·) := onceL_incr _ [] (by rw [List.nil_append]; exact sortL_sorted _ [] .nil) .nil
  rw [List.pairwise_iff_getElem] at hp
  have := hp i (i + 1) (by omega) h (by omega)
  rw [List.getD_eq_getElem?_getD, List.getElem?_eq_getElem (by omega), List.getD_eq_getElem?_getD, List.getElem?_eq_getElem h]
  exact this
theorem plcs_mem {kn kn2 : List Rat} {a : Rat} (h : a ∈ plcs kn kn2) : a ∈ kn ∨ a ∈ kn2 := by
  rcases onceL_mem h with h | h
  · cases h
  · rcases sortL_mem h with h | h
    · cases h
    · exact List.mem_append.mp h
theorem KnG.range {d : Nat} {kn : List Rat} (h : KnG d kn) {a : Rat} (ha : a ∈ kn) : kn.getD 0 0 ≤ a ∧ a ≤ kn.getD (kn.length - 1) 0 := by
  obtain ⟨i, hi, rfl⟩ := List.getElem_of_mem ha
  have h1 := h.so 0 i (by omega) hi
  have h2 := h.so i (kn.length - 1) (by omega) (by omega)
  have e : kn.getD i 0 = kn[i] := by rw [List.getD_eq_getElem?_getD, List.getElem?_eq_getElem hi]; rfl
  rw [e] at h1 h2
  exact ⟨h1, h2⟩
theorem plx_in {l : List Rat} {i s m : Nat} (hs : s < m) (h : l.getD i 0 < l.getD (i + 1) 0) : l.getD i 0 ≤ plx l i s m ∧ plx l i s m < l.getD (i + 1) 0 := by
  unfold plx
  have hm : (0 : Rat) < (m : Rat) := by exact_mod_cast (show 0 < m by omega)
  have h0 : (0 : Rat) ≤ (s : Rat) := by exact_mod_cast Nat.zero_le s
  have h1 : (s : Rat) < (m : Rat) := by exact_mod_cast hs
  generalize (s : Rat) = a at *
  generalize (m : Rat) = b at *
  have q0 : 0 ≤ a / b := by
    rw [Rat.div_def]
    exact Rat.mul_nonneg h0 (Rat.le_of_lt (Rat.inv_pos.mpr hm))
  have q1 : a / b < 1 := by
    have : a / b = 1 - (b - a) * b⁻¹ := by grind
    rw [this]
    have := Rat.mul_pos (show 0 < b - a by grind) (Rat.inv_pos.mpr hm)
    grind
  generalize a / b = r at *
  generalize l.getD i 0 = u at *
  generalize l.getD (i + 1) 0 = v at *
  have p1 := Rat.mul_nonneg q0 (show 0 ≤ v - u by grind)
  have p2 := Rat.mul_pos (show 0 < 1 - r by grind) (show 0 < v - u by grind)
  constructor
  · grind
  · grind
/-! ### the truth of the end of the law -/
section
variable {d : Nat} {kn c : List Rat} {x : Rat}
theorem law_due (h : KnG d kn) (hn : c.length + d + 1 = kn.length) (lo : kn.getD 0 0 < x) :
    dueN x (leftP x [] (pieces kn c d)) (rightP x [] (pieces kn c d)) (d + 1) = smAt x d (pieces kn c d) := by
  have S := h.spl hn
  have l2 := h.len2
  have kl := kn_lt h
  rw [pieces_te h hn]
  rcases pcsN_head (c := tk c) (d := d) S.mono (kn.length - 1) with ⟨_, h2⟩ | ⟨a, h1, h2⟩
  · have := h2 (kn.length - 1) (Nat.le_refl _)
    rw [te_tk (by omega), te_tk (by omega)] at this
    exact absurd this.symm (by show ¬ kn.getD 0 0 = kn.getD (kn.length - 1) 0; grind)
  · refine due_pieces (pcsN_incr S.mono _) h1 ?_
    rw [h2, te_tk (by omega)]; exact lo
theorem law_no (h : KnG d kn) (hn : c.length + d + 1 = kn.length) (hx : x ∉ kn) : smAt x d (pieces kn c d) = d := by
  rw [pieces_te h hn]
  refine smAt_no _ fun p hp => ?_
  obtain ⟨j, h1, h2, rfl⟩ := pcsN_mem hp
  show te kn j ≠ x
  rw [te_tk (by omega)]
  rintro rfl
  exact hx (mem_getD (by omega))
end
end Bc
end
section
set_option Elab.async false
set_option linter.all false
set_option maxRecDepth 100000
set_option exponentiation.threshold 200000
namespace Bc
/-! ### sizes -/
abbrev AL (D k : Nat) (l : List Rat) : Prop := ∀ a ∈ l, Lat D k a
theorem al_getD {D k : Nat} {l : List Rat} (h : AL D k l) (i : Nat) : Lat D k (l.getD i 0) := by
  by_cases e : i < l.length
  · exact h _ (mem_getD e)
  · rw [List.getD_eq_getElem?_getD, List.getElem?_eq_none (by omega)]; exact Lat.zero D k
theorem AL.mono {D k m : Nat} {l : List Rat} (h : AL D k l) (hk : k ≤ m) : AL D m l := fun a ha => (h a ha).mono hk
theorem al_take {D k n : Nat} {l : List Rat} (h : AL D k l) : AL D k (l.take n) := fun a ha => h a (List.mem_of_mem_take ha)
theorem al_zip {D k m : Nat} : ∀ {p q : List Rat}, AL D k p → AL D m q → AL D (max k m + 1) (List.zipWith (· + ·) p q)
  | [], _, _, _ => by rw [List.zipWith_nil_left]; intro a ha; cases ha
  | _ :: _, [], _, _ => by rw [List.zipWith_nil_right]; intro a ha; cases ha
  | b :: p, c :: q, hp, hq => by
    rw [List.zipWith_cons_cons]
    intro a ha
    rcases List.mem_cons.mp ha with rfl | ha
    · exact (hp b List.mem_cons_self).plus (hq c List.mem_cons_self)
    · exact al_zip (fun a h => hp a (List.mem_cons_of_mem _ h)) (fun a h => hq a (List.mem_cons_of_mem _ h)) a ha
theorem al_pad {D k n : Nat} {p : List Rat} (h : AL D k p) : AL D k (pad p n) := by
  intro a ha
  rcases List.mem_append.mp ha with ha | ha
  · exact h a ha
  · rw [List.eq_of_mem_replicate ha]; exact Lat.zero D k
theorem al_pplus {D k m : Nat} {p q : List Rat} (hp : AL D k p) (hq : AL D m q) : AL D (max k m + 1) (pplus p q) := al_take (al_zip (al_pad hp) (al_pad hq))
theorem al_pscale {D k E m : Nat} {p : List Rat} {c : Rat} (hp : AL D k p) (hc : Lat E m c) : AL (D * E) (k + m) (pscale p c) := by
  refine al_take fun a ha => ?_
  obtain ⟨b, hb, rfl⟩ := List.mem_map.mp ha
  exact (hp b hb).times hc
theorem al_mrow {A B l k : Nat} {a : Rat} (ha : Lat A l a) (hA : 0 < A) (hB : 0 < B) (hA2 : A < 2 ^ 2400) (hB2 : B < 2 ^ 2400) (hAB : A * B < 2 ^ 2400) : ∀ (ys f : List Rat) (i u : Nat), l + k + u + ys.length ≤ 90000 → AL B k ys → AL (A * B) (l + k + u) f →
    AL (A * B) (l + k + u + ys.length) (mrow a f i ys) ∧ mrowOk a f i ys
  | [], f, i, u, _, _, hf => ⟨hf, trivial⟩
  | y :: ys, f, i, u, hb, hy, hf => by
    rw [List.length_cons] at hb
    have hyy := hy y List.mem_cons_self
    have hp := ha.times hyy
    have hfi := al_getD hf i
    have hn := (hfi.plus hp).mono (show max (l + k + u) (l + k) + 1 ≤ l + k + (u + 1) by omega)
    have ih := al_mrow ha hA hB hA2 hB2 hAB ys (f.set i (f.getD i 0 + a * y)) (i + 1) (u + 1) (by omega) (fun z hz => hy z (List.mem_cons_of_mem _ hz)) (fun z hz => by
      rcases List.mem_or_eq_of_mem_set hz with hz | rfl
      · exact (hf z hz).mono (by omega)
      · exact hn)
    refine ⟨fun z hz => (ih.1 z hz).mono (by rw [List.length_cons]; omega), ha.sm hA hA2 (by omega), hyy.sm hB hB2 (by omega), hp.sm (Nat.mul_pos hA hB) hAB (by omega), hfi.sm (Nat.mul_pos hA hB) hAB (by omega), ih.2⟩
theorem al_ptimes2 {A B l k : Nat} {a b : Rat} {q : List Rat} (ha : Lat A l a) (hb : Lat A l b) (hA : 0 < A) (hB : 0 < B) (hA2 : A < 2 ^ 2400) (hB2 : B < 2 ^ 2400) (hAB : A * B < 2 ^ 2400) (hl : q.length ≤ 5) (hs : l + k ≤ 80000) (hq : AL B k q) :
    AL (A * B) (l + k + 10) (ptimes [a, b] q) ∧ ptimesOk [a, b] q := by
  have h1 := al_mrow ha hA hB hA2 hB2 hAB q (List.replicate ([a, b].length + q.length - 1) 0) 0 0 (by omega) hq (fun z hz => by rw [List.eq_of_mem_replicate hz]; exact Lat.zero _ _)
  have h2 := al_mrow hb hA hB hA2 hB2 hAB q (mrow a (List.replicate ([a, b].length + q.length - 1) 0) 0 q) 1 q.length (by omega) hq (fun z hz => (h1.1 z hz).mono (by omega))
  refine ⟨?_, h1.2, h2.2, trivial⟩
  unfold ptimes
  split
  · intro z hz; cases hz
  · intro z hz
    exact (h2.1 z hz).mono (by omega)
/-! ### widths -/
/-- how far two knots lie apart, 1 if not at all -/
def wd (a b : Rat) : Nat := if a < b then ((b - a) * 144).num.natAbs else 1
theorem wd_ok {a b : Rat} (ha : Gr 144 3024 a) (hb : Gr 144 3024 b) : 0 < wd a b ∧ wd a b < 2 ^ 13 ∧ (a < b → (b - a) * 144 = (wd a b : Rat)) := by
  obtain ⟨n, rfl, hn⟩ := ha
  obtain ⟨m, rfl, hm⟩ := hb
  have e : ((m : Rat) / ((144 : Nat) : Rat) - (n : Rat) / ((144 : Nat) : Rat)) * 144 = ((m - n : Int) : Rat) := by rw [Rat.intCast_sub]; grind
  unfold wd
  by_cases h : (n : Rat) / ((144 : Nat) : Rat) < (m : Rat) / ((144 : Nat) : Rat)
  · rw [if_pos h, e, Rat.num_intCast]
    have hlt : n < m := by
      have : (n : Rat) < (m : Rat) := by grind
      exact_mod_cast this
    refine ⟨by omega, by show _ < 8192; omega, fun _ => ?_⟩
    rw [← Rat.intCast_natCast, Int.natAbs_of_nonneg (by omega)]
  · rw [if_neg h]
    exact ⟨by decide, by decide, fun z => absurd z h⟩
def fp (t : Nat → Rat) (k : Nat) : Nat → Nat
  | 0 => 1
  | m + 1 => fp t k m * wd (t m) (t (m + k))
theorem fp_ok {t : Nat → Rat} (ht : ∀ i, Gr 144 3024 (t i)) (k : Nat) : ∀ m, 0 < fp t k m ∧ fp t k m ≤ 2 ^ (13 * m)
  | 0 => ⟨Nat.one_pos, Nat.le_refl 1⟩
  | m + 1 => by
    obtain ⟨h1, h2⟩ := fp_ok ht k m
    obtain ⟨w1, w2, _⟩ := wd_ok (ht m) (ht (m + k))
    refine ⟨Nat.mul_pos h1 w1, ?_⟩
    show fp t k m * wd (t m) (t (m + k)) ≤ _
    rw [show 13 * (m + 1) = 13 * m + 13 by omega, Nat.pow_add]
    exact Nat.mul_le_mul h2 (Nat.le_of_lt w2)
theorem fp_div {t : Nat → Rat} (ht : ∀ i, Gr 144 3024 (t i)) (k : Nat) {i : Nat} : ∀ m, i < m → ∃ r, fp t k m = wd (t i) (t (i + k)) * r ∧ r ≤ 2 ^ (13 * m)
  | 0, h => by omega
  | m + 1, h => by
    by_cases e : i = m
    · subst e
      refine ⟨fp t k i, Nat.mul_comm _ _, Nat.le_trans (fp_ok ht k i).2 (Nat.pow_le_pow_right (by decide) (by omega))⟩
    · obtain ⟨r, r1, r2⟩ := fp_div ht k (i := i) m (by omega)
      obtain ⟨w1, w2, _⟩ := wd_ok (ht m) (ht (m + k))
      refine ⟨r * wd (t m) (t (m + k)), ?_, ?_⟩
      · show fp t k m * _ = _
        rw [r1, Nat.mul_assoc]
      · rw [show 13 * (m + 1) = 13 * m + 13 by omega, Nat.pow_add]
        exact Nat.mul_le_mul r2 (Nat.le_of_lt w2)
/-- the widths of k steps, all together -/
def FF (t : Nat → Rat) (k : Nat) : Nat := fp t k 16
theorem FF_ok {t : Nat → Rat} (ht : ∀ i, Gr 144 3024 (t i)) (k : Nat) : 0 < FF t k ∧ FF t k ≤ 2 ^ 208 := fp_ok ht k 16
theorem Lat.toF {t : Nat → Rat} (ht : ∀ i, Gr 144 3024 (t i)) {k i l : Nat} (hi : i < 16) {q : Rat} (h : Lat (wd (t i) (t (i + k))) l q) : Lat (FF t k) (l + 209) q := by
  obtain ⟨r, r1, r2⟩ := fp_div ht k 16 hi
  unfold FF
  rw [r1]
  exact h.up (Nat.lt_of_le_of_lt r2 (Nat.pow_lt_pow_right (by decide) (by decide)))
/-- the quotient of a small number and a width -/
theorem lat_inv {a b : Rat} (ha : Gr 144 3024 a) (hb : Gr 144 3024 b) (hab : a < b) : Lat (wd a b) 8 (1 / (b - a)) := by
  obtain ⟨w1, w2, w3⟩ := wd_ok ha hb
  have e := w3 hab
  refine ⟨144, ?_, by decide⟩
  have hne : b - a ≠ 0 := by grind
  rw [← e]
  show 1 / (b - a) * ((b - a) * 144) = 144
  grind
theorem lat_num {a b u : Rat} (ha : Gr 144 3024 a) (hb : Gr 144 3024 b) (hu : Gr 144 3024 u) (hab : a < b) : Lat (wd a b) 12 (u * (1 / (b - a))) := by
  obtain ⟨w1, w2, w3⟩ := wd_ok ha hb
  have e := w3 hab
  obtain ⟨n, rfl, hn⟩ := hu
  refine ⟨n, ?_, by show _ < 4096; omega⟩
  have hne : b - a ≠ 0 := by grind
  rw [← e]
  grind
theorem Gr.neg {D b : Nat} {x : Rat} (h : Gr D b x) : Gr D b (-x) := by
  obtain ⟨n, rfl, h⟩ := h
  exact ⟨-n, by grind, by omega⟩
theorem gr_sm {x : Rat} (h : Gr 144 3024 x) : Sm x := h.sm (by decide) (by decide) (by decide)
theorem gr_num {D b k : Nat} {x : Rat} (h : Gr D b x) (hD : 0 < D) (hb : b < 2 ^ k) : x.num.natAbs < 2 ^ k := ((h.lat hD hb).den hD).2
theorem ln_ok {t : Nat → Rat} (ht : ∀ i, Gr 144 3024 (t i)) {i k : Nat} (h : t i < t (i + k)) (hi : i < 16) : LnOk (t i) (t (i + k)) := by
  have g := (ht (i + k)).sub (by decide) (ht i)
  refine ⟨gr_sm (ht i), gr_sm (ht (i + k)), h, g.sm (by decide) (by decide) (by decide), gr_num g (by decide) (by decide), ?_⟩
  obtain ⟨w1, w2, _⟩ := wd_ok (ht i) (ht (i + k))
  exact (lat_inv (ht i) (ht (i + k)) h).sm w1 (Nat.lt_trans w2 (Nat.pow_lt_pow_right (by decide) (by decide))) (by decide)
/-- common denominators of the polynomials of basis functions -/
def DD (t : Nat → Rat) : Nat → Nat
  | 0 => 1
  | k + 1 => FF t (k + 1) * DD t k
theorem DD_ok {t : Nat → Rat} (ht : ∀ i, Gr 144 3024 (t i)) : ∀ k, 0 < DD t k ∧ DD t k ≤ 2 ^ (208 * k)
  | 0 => ⟨Nat.one_pos, Nat.le_refl 1⟩
  | k + 1 => by
    obtain ⟨h1, h2⟩ := DD_ok ht k
    obtain ⟨f1, f2⟩ := FF_ok ht (k + 1)
    refine ⟨Nat.mul_pos f1 h1, ?_⟩
    show FF t (k + 1) * DD t k ≤ _
    rw [show 208 * (k + 1) = 208 + 208 * k by omega, Nat.pow_add]
    exact Nat.mul_le_mul f2 h2
theorem lt_2400 {n k : Nat} (h : n ≤ 2 ^ k) (hk : k < 2400) : n < 2 ^ 2400 := Nat.lt_of_le_of_lt h (Nat.pow_lt_pow_right (by decide) hk)
theorem bp_lat {t : Nat → Rat} (ht : ∀ i, Gr 144 3024 (t i)) (mono : ∀ a b, a ≤ b → t a ≤ t b) (j : Nat) : ∀ d i, d ≤ 4 → i + d < 16 → AL (DD t d) (240 * d + 1) (bpoly t d i j) ∧ bpOk t d i j
  | 0, i, _, _ => by
    refine ⟨fun a ha => ?_, trivial⟩
    have ha' : a ∈ (if i = j then [(1 : Rat)] else []) := ha
    split at ha'
    · rw [List.mem_singleton.mp ha']
      exact ⟨1, by show (1 : Rat) * ((1 : Nat) : Rat) = ((1 : Int) : Rat); grind, by decide⟩
    · cases ha'
  | d + 1, i, hd, hi => by
    obtain ⟨a1, o1⟩ := bp_lat ht mono j d i (by omega) (by omega)
    obtain ⟨a2, o2⟩ := bp_lat ht mono j d (i + 1) (by omega) (by omega)
    obtain ⟨f1, f2⟩ := FF_ok ht (d + 1)
    obtain ⟨d1, d2⟩ := DD_ok ht d
    obtain ⟨e1, e2⟩ := DD_ok ht (d + 1)
    have F2 := lt_2400 f2 (by decide)
    have D2 := lt_2400 d2 (by omega)
    have E2 : FF t (d + 1) * DD t d < 2 ^ 2400 := lt_2400 e2 (by omega)
    have p1 : t i ≠ t (i + d + 1) → AL (DD t (d + 1)) (240 * d + 235) (ptimes (ln1 (t i) (t (i + d + 1))) (bpoly t d i j)) ∧ ptimesOk (ln1 (t i) (t (i + d + 1))) (bpoly t d i j) ∧ LnOk (t i) (t (i + d + 1)) := fun hne => by
      have hlt : t i < t (i + (d + 1)) := by have := mono i (i + (d + 1)) (by omega); rw [show i + (d + 1) = i + d + 1 by omega] at *; grind
      have l1 := (lat_num (ht i) (ht (i + (d + 1))) (ht i).neg hlt).toF ht (by omega)
      have l2 := ((lat_inv (ht i) (ht (i + (d + 1))) hlt).mono (show 8 ≤ 12 by decide)).toF ht (by omega)
      obtain ⟨r1, r2⟩ := al_ptimes2 l1 l2 f1 d1 F2 D2 E2 (Nat.le_trans (bpoly_lenB t j d i) (by omega)) (by omega) a1
      exact ⟨fun z hz => (r1 z hz).mono (by omega), r2, ln_ok ht hlt (by omega)⟩
    have p2 : t (i + 1) ≠ t (i + d + 2) → AL (DD t (d + 1)) (240 * d + 235) (ptimes (ln2 (t (i + 1)) (t (i + d + 2))) (bpoly t d (i + 1) j)) ∧ ptimesOk (ln2 (t (i + 1)) (t (i + d + 2))) (bpoly t d (i + 1) j) ∧ LnOk (t (i + 1)) (t (i + d + 2)) := fun hne => by
      have ei : i + d + 2 = i + 1 + (d + 1) := by omega
      rw [ei] at hne ⊢
      have hlt : t (i + 1) < t (i + 1 + (d + 1)) := by have := mono (i + 1) (i + 1 + (d + 1)) (by omega); grind
      have l1 := (lat_num (ht (i + 1)) (ht (i + 1 + (d + 1))) (ht (i + 1 + (d + 1))) hlt).toF ht (by omega)
      have l2 := (((lat_inv (ht (i + 1)) (ht (i + 1 + (d + 1))) hlt).neg).mono (show 8 ≤ 12 by decide)).toF ht (by omega)
      obtain ⟨r1, r2⟩ := al_ptimes2 l1 l2 f1 d1 F2 D2 E2 (Nat.le_trans (bpoly_lenB t j d (i + 1)) (by omega)) (by omega) a2
      exact ⟨fun z hz => (r1 z hz).mono (by omega), r2, ln_ok ht hlt (by omega)⟩
    have q1 : AL (DD t (d + 1)) (240 * d + 235) (if t i = t (i + d + 1) then [] else ptimes (ln1 (t i) (t (i + d + 1))) (bpoly t d i j)) := by
      split
      · intro a ha; cases ha
      · next h => exact (p1 h).1
    have sm' : ∀ {l : List Rat}, AL (DD t (d + 1)) (240 * d + 235) l → ∀ a ∈ l, Sm a := fun h a ha => (h a ha).sm e1 E2 (by omega)
    refine ⟨?_, fun h => ⟨(p1 h).2.2, o1, (p1 h).2.1⟩, fun h => ⟨(p2 h).2.2, o2, (p2 h).2.1, sm' q1, sm' (p2 h).1⟩⟩
    show AL _ _ (if t (i + 1) = t (i + d + 2) then _ else _)
    split
    · exact q1.mono (by omega)
    · next h => exact (al_pplus q1 (p2 h).1).mono (by omega)
/-- the pieces' polynomials -/
theorem pp_lat {t c : Nat → Rat} (ht : ∀ i, Gr 144 3024 (t i)) (mono : ∀ a b, a ≤ b → t a ≤ t b) {C e d j : Nat} (hd : d ≤ 4) (hdj : d ≤ j) (hj : j + d < 16) (hC : 0 < C) (hC2 : C ≤ 2 ^ 1400) (he : e ≤ 5000) (hc : ∀ i, Lat C e (c i)) :
    (∀ r, r ≤ d + 1 → AL (DD t d * C) (961 + e + r) (ppolyN t c d j r)) ∧ ppOk t c d j := by
  obtain ⟨d1, d2⟩ := DD_ok ht d
  have D2 := lt_2400 d2 (by omega)
  have C2 := lt_2400 hC2 (by omega)
  have P2 : DD t d * C < 2 ^ 2400 := by
    have : DD t d * C ≤ 2 ^ (208 * d + 1400) := by rw [Nat.pow_add]; exact Nat.mul_le_mul d2 hC2
    exact lt_2400 this (by omega)
  have P1 := Nat.mul_pos d1 hC
  have bq : ∀ r, r < d + 1 → AL (DD t d) 961 (bpoly t d (j - d + r) j) ∧ bpOk t d (j - d + r) j := fun r hr => by
    obtain ⟨a, b⟩ := bp_lat ht mono j d (j - d + r) hd (by omega)
    exact ⟨a.mono (by omega), b⟩
  have all : ∀ r, r ≤ d + 1 → AL (DD t d * C) (961 + e + r) (ppolyN t c d j r) := by
    intro r
    induction r with
    | zero => intro _ a ha; cases ha
    | succ r ih =>
      intro hr
      have h1 := ih (by omega)
      have h2 := al_pscale (bq r (by omega)).1 (hc (j - d + r))
      exact (al_pplus h1 h2).mono (by omega)
  refine ⟨all, fun r hr => ⟨(bq r hr).2, fun a ha => ((bq r hr).1 a ha).sm d1 D2 (by omega), (hc _).sm hC C2 (by omega), fun a ha => (all r (by omega) a ha).sm P1 P2 (by omega), fun a ha => ?_⟩⟩
  have h2 := al_pscale (bq r hr).1 (hc (j - d + r))
  exact (h2 a ha).sm P1 P2 (by omega)
end Bc
end
section
set_option Elab.async false
set_option linter.all false
set_option maxRecDepth 100000
set_option exponentiation.threshold 200000
namespace Bc
theorem hor_lat {x : Rat} {X P e : Nat} (hx : Lat X 17 x) (hX : 0 < X) (hX2 : X ≤ 2 ^ 10) (hP : 0 < P) (hP2 : P ≤ 2 ^ 2240) (he : e ≤ 50000) : ∀ (cs : List Rat) (acc : Rat) (k : Nat), k + cs.length ≤ 8 → AL P e cs → Lat (P * X ^ k) (e + 30 * k) acc →
    horOk x acc cs ∧ Lat (P * X ^ (k + cs.length)) (e + 30 * (k + cs.length)) (hor x acc cs)
  | [], acc, k, _, _, h => ⟨trivial, h⟩
  | c :: cs, acc, k, hk, hc, h => by
    rw [List.length_cons] at hk
    have xp : ∀ m, m ≤ 8 → X ^ m ≤ 2 ^ (10 * m) := fun m _ => by
      rw [Nat.pow_mul]; exact Nat.pow_le_pow_left hX2 m
    have pp : ∀ m, m ≤ 8 → 0 < P * X ^ m ∧ P * X ^ m < 2 ^ 2400 := fun m hm => by
      refine ⟨Nat.mul_pos hP (Nat.pow_pos hX), ?_⟩
      have : P * X ^ m ≤ 2 ^ (2240 + 10 * m) := by rw [Nat.pow_add]; exact Nat.mul_le_mul hP2 (xp m hm)
      exact lt_2400 this (by omega)
    have h1 := h.times hx
    rw [Nat.mul_assoc, ← Nat.pow_succ] at h1
    have hc0 := hc c List.mem_cons_self
    have h2 := hc0.up (E := X ^ (k + 1)) (l := 10 * (k + 1) + 1) (Nat.lt_of_le_of_lt (xp (k + 1) (by omega)) (Nat.pow_lt_pow_right (by decide) (by omega)))
    have h3 := (h1.plus h2).mono (show max (e + 30 * k + 17) (e + (10 * (k + 1) + 1)) + 1 ≤ e + 30 * (k + 1) by omega)
    obtain ⟨r1, r2⟩ := hor_lat hx hX hX2 hP hP2 he cs (acc * x + c) (k + 1) (by omega) (fun a ha => hc a (List.mem_cons_of_mem _ ha)) h3
    obtain ⟨p1, p2⟩ := pp k (by omega)
    obtain ⟨q1, q2⟩ := pp (k + 1) (by omega)
    refine ⟨⟨h.sm p1 p2 (by omega), h1.sm q1 q2 (by omega), hc0.sm hP (lt_2400 hP2 (by decide)) (by omega), r1⟩, ?_⟩
    rw [List.length_cons, show k + (cs.length + 1) = k + 1 + cs.length by omega]; exact r2
theorem hor_ok {x : Rat} {X P e : Nat} (hx : Lat X 17 x) (hX : 0 < X) (hX2 : X ≤ 2 ^ 10) (hP : 0 < P) (hP2 : P ≤ 2 ^ 2240) (he : e ≤ 50000) {p : List Rat} (hl : p.length ≤ 8) (hp : AL P e p) : horOk x 0 p.reverse :=
  (hor_lat hx hX hX2 hP hP2 he p.reverse 0 0 (by rw [List.length_reverse]; omega) (fun a ha => hp a (List.mem_reverse.mp ha)) (Lat.zero _ _)).1
theorem lat_nat {D k n l : Nat} {a : Rat} (h : Lat D k a) (hn : n < 2 ^ l) : Lat D (k + l) (a * (n : Rat)) := by
  obtain ⟨z, e1, h1⟩ := h
  refine ⟨z * (n : Int), by rw [Rat.intCast_mul, Rat.intCast_natCast]; grind, ?_⟩
  rw [Int.natAbs_mul, Nat.pow_add, Int.natAbs_natCast]
  exact Nat.mul_lt_mul'' h1 hn
theorem al_slope {P e : Nat} {p : List Rat} (hl : p.length ≤ 8) (h : AL P e p) : AL P (e + 3) (pslope p) := by
  intro a ha
  obtain ⟨i, hi, rfl⟩ := List.getElem_of_mem ha
  rw [pslope_len] at hi
  have e1 := pslope_at (at_getD (show i + 1 < p.length by omega))
  rw [List.getElem?_eq_getElem (by rw [pslope_len]; exact hi)] at e1
  rw [Option.some.inj e1]
  exact lat_nat (al_getD h (i + 1)) (by show _ < 8; omega)
theorem al_slopes {P e : Nat} {p : List Rat} (hl : p.length ≤ 8) (h : AL P e p) : ∀ k, AL P (e + 3 * k) (slopes k p)
  | 0 => h
  | k + 1 => by
    have := al_slope (Nat.le_trans (slopes_len p k) hl) (al_slopes hl h k)
    exact this.mono (by omega)
theorem sl_ok {x : Rat} {X P e : Nat} (hx : Lat X 17 x) (hX : 0 < X) (hX2 : X ≤ 2 ^ 10) (hP : 0 < P) (hP2 : P ≤ 2 ^ 2240) (he : e ≤ 40000) {p : List Rat} (hl : p.length ≤ 8) (hp : AL P e p) {o : Nat} (ho : o ≤ 100) : SlOk x o p :=
  ⟨by omega, fun k hk a ha => (al_slopes hl hp k a ha).sm hP (lt_2400 hP2 (by decide)) (by omega), hor_ok hx hX hX2 hP hP2 (show e + 3 * o ≤ 50000 by omega) (Nat.le_trans (slopes_len p o) hl) (al_slopes hl hp o)⟩
theorem ord_ok {x : Rat} {X P : Nat} (hx : Lat X 17 x) (hX : 0 < X) (hX2 : X ≤ 2 ^ 10) (hP : 0 < P) (hP2 : P ≤ 2 ^ 2240) : ∀ (n e : Nat) (p q : List Rat), e + 3 * n ≤ 40000 → p.length ≤ 8 → q.length ≤ 8 → AL P e p → AL P e q → ordOk x n p q
  | 0, _, _, _, _, _, _, _, _ => trivial
  | n + 1, e, p, q, he, h1, h2, hp, hq => by
    refine ⟨hor_ok hx hX hX2 hP hP2 (by omega) h1 hp, hor_ok hx hX hX2 hP hP2 (by omega) h2 hq, fun a ha => (hp a ha).sm hP (lt_2400 hP2 (by decide)) (by omega), fun a ha => (hq a ha).sm hP (lt_2400 hP2 (by decide)) (by omega), by omega, by omega, ?_⟩
    exact ord_ok hx hX hX2 hP hP2 n (e + 3) _ _ (by omega) (by rw [pslope_len]; omega) (by rw [pslope_len]; omega) (al_slope h1 hp) (al_slope h2 hq)
/-! ### blossoms -/
theorem p144 (k : Nat) (hk : k ≤ 8) : 0 < 144 ^ k ∧ 144 ^ k ≤ 2 ^ (8 * k) := by
  refine ⟨Nat.pow_pos (by decide), ?_⟩
  rw [Nat.pow_mul]; exact Nat.pow_le_pow_left (by decide) k
theorem al_syStep {k b : Nat} {l : List Rat} {u : Rat} (h : AL (144 ^ k) b l) (hu : Lat 144 12 u) : AL (144 ^ (k + 1)) (b + 30) (syStep l u) := by
  intro a ha
  obtain ⟨i, hi, rfl⟩ := List.getElem_of_mem ha
  have e : (syStep l u).getD i 0 = (syStep l u)[i] := by rw [List.getD_eq_getElem?_getD, List.getElem?_eq_getElem hi]; rfl
  rw [← e]
  have up : ∀ i, Lat (144 ^ (k + 1)) (b + 8) (l.getD i 0) := fun i => by
    have := (al_getD h i).up (E := 144) (l := 8) (by decide)
    rw [← Nat.pow_succ] at this; exact this
  cases i with
  | zero => rw [syStep_0]; exact (up 0).mono (by omega)
  | succ i =>
    rw [syStep_at]
    have h2 := (al_getD h i).times hu
    rw [← Nat.pow_succ] at h2
    exact ((up (i + 1)).plus h2).mono (by omega)
theorem sy_lat : ∀ (us l : List Rat) (k b : Nat), k + us.length ≤ 8 → b + 30 * us.length ≤ 1000 → AL (144 ^ k) b l → AL 144 12 us → AL (144 ^ (k + us.length)) (b + 30 * us.length) (syAll l us) ∧ syOk l us
  | [], l, k, b, _, _, h, _ => ⟨h, trivial⟩
  | u :: us, l, k, b, hk, hb, h, hu => by
    rw [List.length_cons] at hk hb
    have hu0 := hu u List.mem_cons_self
    obtain ⟨r1, r2⟩ := sy_lat us (syStep l u) (k + 1) (b + 30) (by omega) (by omega) (al_syStep h hu0) (fun a ha => hu a (List.mem_cons_of_mem _ ha))
    refine ⟨?_, hu0.sm (by decide) (by decide) (by decide), fun i hi => ?_, r2⟩
    · rw [List.length_cons, show k + (us.length + 1) = k + 1 + us.length by omega, show b + 30 * (us.length + 1) = b + 30 + 30 * us.length by omega]; exact r1
    · obtain ⟨p1, p2⟩ := p144 k (by omega)
      obtain ⟨q1, q2⟩ := p144 (k + 1) (by omega)
      have hm := (al_getD h i).times hu0
      rw [← Nat.pow_succ] at hm
      refine ⟨(al_getD h i).sm p1 (lt_2400 p2 (by omega)) (by omega), hm.sm q1 (lt_2400 q2 (by omega)) (by omega), ?_⟩
      rw [syIn_at l u i (i + 1) (by omega), if_neg (by omega)]
      exact (al_getD h (i + 1)).sm p1 (lt_2400 p2 (by omega)) (by omega)
theorem chz_lat : ∀ n : Nat, n < 5 → ∀ k : Nat, k < 5 → k ≤ n → (1 / (chz (n : Int) k : Rat)) * ((12 : Nat) : Rat) = ((12 / chz (n : Int) k : Int) : Rat) ∧ (12 / chz (n : Int) k).natAbs < 2 ^ 5 := by decide +kernel
theorem bl_lat {n : Nat} {told : List Rat} {T P b e : Nat} (hn : n ≤ 4) (ht : AL T b told) (hT : 0 < T) (hT2 : T ≤ 2 ^ 64) (hP : 0 < P) (hP2 : P ≤ 2 ^ 2240) (hb : b ≤ 1000) (he : e ≤ 40000) : ∀ (cs : List Rat) (acc : Rat) (k m : Nat), k + cs.length ≤ n + 1 → m + cs.length ≤ 100 → AL P e cs → Lat (P * (T * 12)) (e + b + 5 + m) acc →
    blOk (n : Int) told acc k cs ∧ Lat (P * (T * 12)) (e + b + 5 + m + cs.length) (blIn (n : Int) told acc k cs)
  | [], acc, k, m, _, _, _, h => ⟨trivial, h⟩
  | c :: cs, acc, k, m, hk, hm, hc, h => by
    rw [List.length_cons] at hk hm
    have hc0 := hc c List.mem_cons_self
    have t1 := al_getD ht k
    obtain ⟨z1, z2⟩ := chz_lat n (by omega) k (by omega) (by omega)
    have t2 : Lat 12 5 (1 / (chz (n : Int) k : Rat)) := ⟨_, z1, z2⟩
    have t3 := t1.times t2
    have t4 := hc0.times t3
    have T12 : T * 12 ≤ 2 ^ 68 := by
      have : T * 12 ≤ 2 ^ 64 * 16 := Nat.mul_le_mul hT2 (by decide)
      exact this
    have PT : P * (T * 12) < 2 ^ 2400 := by
      have : P * (T * 12) ≤ 2 ^ (2240 + 68) := by rw [Nat.pow_add]; exact Nat.mul_le_mul hP2 T12
      exact lt_2400 this (by decide)
    have T0 : 0 < T * 12 := Nat.mul_pos hT (by decide)
    have PT0 := Nat.mul_pos hP T0
    obtain ⟨r1, r2⟩ := bl_lat hn ht hT hT2 hP hP2 hb he cs _ (k + 1) (m + 1) (by omega) (by omega) (fun a ha => hc a (List.mem_cons_of_mem _ ha)) ((h.plus t4).mono (show max (e + b + 5 + m) (e + (b + 5)) + 1 ≤ e + b + 5 + (m + 1) by omega))
    refine ⟨⟨h.sm PT0 PT (by omega), hc0.sm hP (lt_2400 hP2 (by decide)) (by omega), t1.sm hT (lt_2400 hT2 (by decide)) (by omega), t2.sm (by decide) (by decide) (by decide), t3.sm T0 (lt_2400 T12 (by decide)) (by omega), t4.sm PT0 PT (by omega), r1⟩, ?_⟩
    rw [List.length_cons, show e + b + 5 + m + (cs.length + 1) = e + b + 5 + (m + 1) + cs.length by omega]; exact r2
theorem blossom_lat {p us : List Rat} {P e : Nat} (h4 : us.length ≤ 4) (hp : p.length ≤ us.length + 1) (hu : AL 144 12 us) (hP : 0 < P) (hP2 : P ≤ 2 ^ 2240) (he : e ≤ 40000) (hc : AL P e p) :
    blossomOk p us ∧ Lat (P * (144 ^ us.length * 12)) (e + 200) (blossom p us) := by
  obtain ⟨s1, s2⟩ := sy_lat us [1] 0 1 (by omega) (by omega) (fun a ha => by rw [List.mem_singleton.mp ha]; exact ⟨1, by show (1 : Rat) * ((1 : Nat) : Rat) = ((1 : Int) : Rat); grind, by decide⟩) hu
  rw [Nat.zero_add] at s1
  obtain ⟨t1, t2⟩ := p144 us.length (by omega)
  obtain ⟨b1, b2⟩ := bl_lat (n := us.length) h4 s1 t1 (Nat.le_trans t2 (Nat.pow_le_pow_right (by decide) (by omega))) hP hP2 (by omega) he p 0 0 0 (by omega) (by omega) hc (Lat.zero _ _)
  exact ⟨⟨s2, b1⟩, b2.mono (by omega)⟩
end Bc
end
section
set_option Elab.async false
set_option linter.all false
set_option maxRecDepth 100000
set_option exponentiation.threshold 200000
namespace Bc
/-! ### sizes of the law's values -/
theorem lbOk_congr {t t' : Nat → Rat} (x : Rat) : ∀ d i, (∀ k, i ≤ k → k ≤ i + d + 1 → t k = t' k) → lbOk t' x d i → lbOk t x d i
  | 0, i, h, ok => by
    have ok' : Sm (t' i) ∧ Sm (t' (i + 1)) := ok
    show Sm (t i) ∧ Sm (t (i + 1))
    rw [h i (by omega) (by omega), h (i + 1) (by omega) (by omega)]; exact ok'
  | d + 1, i, h, ok => by
    obtain ⟨o1, o2⟩ := ok
    have c1 := lbas_congr x d i (fun k h1 h2 => h k h1 (by omega))
    have c2 := lbas_congr x d (i + 1) (fun k h1 h2 => h k (by omega) (by omega))
    have l1 := lbOk_congr x d i (fun k h1 h2 => h k h1 (by omega))
    have l2 := lbOk_congr x d (i + 1) (fun k h1 h2 => h k (by omega) (by omega))
    have e0 := h i (by omega) (by omega)
    have e1 := h (i + 1) (by omega) (by omega)
    have e2 := h (i + d + 1) (by omega) (by omega)
    have e3 := h (i + d + 2) (by omega) (by omega)
    refine ⟨fun z => ?_, fun z => ?_⟩
    · rw [e0, e2] at z ⊢
      rw [c1]
      obtain ⟨a, b, c, e, f⟩ := o1 z
      exact ⟨a, b, c, l1 e, f⟩
    · rw [e1, e3] at z
      rw [e0, e1, e2, e3, c1, c2]
      obtain ⟨a, b, c, e, f, g⟩ := o2 z
      exact ⟨a, b, c, l2 e, f, g⟩
def LL (t : Nat → Rat) (X : Nat) : Nat → Nat
  | 0 => 1
  | k + 1 => X * FF t (k + 1) * LL t X k
theorem LL_ok {t : Nat → Rat} (ht : ∀ i, Gr 144 3024 (t i)) {X : Nat} (hX : 0 < X) (hX2 : X ≤ 2 ^ 10) : ∀ k, 0 < LL t X k ∧ LL t X k ≤ 2 ^ (218 * k)
  | 0 => ⟨Nat.one_pos, Nat.le_refl 1⟩
  | k + 1 => by
    obtain ⟨h1, h2⟩ := LL_ok ht hX hX2 k
    obtain ⟨f1, f2⟩ := FF_ok ht (k + 1)
    refine ⟨Nat.mul_pos (Nat.mul_pos hX f1) h1, ?_⟩
    show X * FF t (k + 1) * LL t X k ≤ _
    rw [show 218 * (k + 1) = 10 + 208 + 218 * k by omega, Nat.pow_add, Nat.pow_add]
    exact Nat.mul_le_mul (Nat.mul_le_mul hX2 f2) h2
theorem lb_lat {t : Nat → Rat} (ht : ∀ i, Gr 144 3024 (t i)) (mono : ∀ a b, a ≤ b → t a ≤ t b) {x : Rat} {m : Nat} (hm : 0 < m) (hm2 : m ≤ 7) (hx : Lat (144 * m) 17 x) : ∀ d i, d ≤ 4 → i + d < 16 → lbOk t x d i ∧ Lat (LL t (144 * m) d) (300 * d + 1) (lbas t x d i)
  | 0, i, _, _ => by
    refine ⟨⟨gr_sm (ht i), gr_sm (ht (i + 1))⟩, ?_⟩
    show Lat 1 1 (if ¬ x < t i ∧ x < t (i + 1) then (1 : Rat) else 0)
    split
    · exact ⟨1, by show (1 : Rat) * ((1 : Nat) : Rat) = ((1 : Int) : Rat); grind, by decide⟩
    · exact Lat.zero _ _
  | d + 1, i, hd, hi => by
    obtain ⟨o1, a1⟩ := lb_lat ht mono hm hm2 hx d i (by omega) (by omega)
    obtain ⟨o2, a2⟩ := lb_lat ht mono hm hm2 hx d (i + 1) (by omega) (by omega)
    have X0 : 0 < 144 * m := by omega
    have X2 : 144 * m ≤ 2 ^ 10 := by show _ ≤ 1024; omega
    obtain ⟨f1, f2⟩ := FF_ok ht (d + 1)
    obtain ⟨d1, d2⟩ := LL_ok ht X0 X2 d
    obtain ⟨e1, e2⟩ := LL_ok ht X0 X2 (d + 1)
    have D2 := lt_2400 d2 (by omega)
    have E2 := lt_2400 e2 (by omega)
    have XF0 : 0 < 144 * m * FF t (d + 1) := Nat.mul_pos X0 f1
    have XF2 : 144 * m * FF t (d + 1) < 2 ^ 2400 := by
      have : 144 * m * FF t (d + 1) ≤ 2 ^ (10 + 208) := by rw [Nat.pow_add]; exact Nat.mul_le_mul X2 f2
      exact lt_2400 this (by decide)
    have tu : ∀ i, Lat (144 * m) 15 (t i) := fun i => ((ht i).lat (k := 12) (by decide) (by decide)).up (E := m) (l := 3) (by show _ < 8; omega)
    have p1 : t i ≠ t (i + d + 1) → QuOk (x - t i) (t (i + d + 1) - t i) ∧ Lat (144 * m * FF t (d + 1)) 235 ((x - t i) / (t (i + d + 1) - t i)) := fun hne => by
      have ei : i + d + 1 = i + (d + 1) := by omega
      rw [ei] at hne ⊢
      have hlt : t i < t (i + (d + 1)) := by have := mono i (i + (d + 1)) (by omega); grind
      have l1 := (lat_inv (ht i) (ht (i + (d + 1))) hlt).toF ht (show i < 16 by omega)
      have l2 := hx.minus (tu i)
      have l3 := l2.times l1
      have g := (ht (i + (d + 1))).sub (by decide) (ht i)
      have eq : (x - t i) / (t (i + (d + 1)) - t i) = (x - t i) * (1 / (t (i + (d + 1)) - t i)) := by grind
      rw [eq]
      refine ⟨⟨l2.sm X0 (lt_2400 X2 (by decide)) (by decide), g.sm (by decide) (by decide) (by decide), by grind, gr_num g (by decide) (by decide), ?_⟩, l3.mono (by decide)⟩
      rw [eq]; exact l3.sm XF0 XF2 (by decide)
    have p2 : t (i + 1) ≠ t (i + d + 2) → QuOk (t (i + d + 2) - x) (t (i + d + 2) - t (i + 1)) ∧ Lat (144 * m * FF t (d + 1)) 235 ((t (i + d + 2) - x) / (t (i + d + 2) - t (i + 1))) := fun hne => by
      have ei : i + d + 2 = i + 1 + (d + 1) := by omega
      rw [ei] at hne ⊢
      have hlt : t (i + 1) < t (i + 1 + (d + 1)) := by have := mono (i + 1) (i + 1 + (d + 1)) (by omega); grind
      have l1 := (lat_inv (ht (i + 1)) (ht (i + 1 + (d + 1))) hlt).toF ht (show i + 1 < 16 by omega)
      have l2 := (tu (i + 1 + (d + 1))).minus hx
      have l3 := l2.times l1
      have g := (ht (i + 1 + (d + 1))).sub (by decide) (ht (i + 1))
      have eq : (t (i + 1 + (d + 1)) - x) / (t (i + 1 + (d + 1)) - t (i + 1)) = (t (i + 1 + (d + 1)) - x) * (1 / (t (i + 1 + (d + 1)) - t (i + 1))) := by grind
      rw [eq]
      refine ⟨⟨l2.sm X0 (lt_2400 X2 (by decide)) (by decide), g.sm (by decide) (by decide) (by decide), by grind, gr_num g (by decide) (by decide), ?_⟩, l3.mono (by decide)⟩
      rw [eq]; exact l3.sm XF0 XF2 (by decide)
    have f1' : Lat (LL t (144 * m) (d + 1)) (300 * d + 236) (if t i = t (i + d + 1) then 0 else (x - t i) / (t (i + d + 1) - t i) * lbas t x d i) := by
      split
      · exact Lat.zero _ _
      · next h => exact ((p1 h).2.times a1).mono (by omega)
    have f2' : t (i + 1) ≠ t (i + d + 2) → Lat (LL t (144 * m) (d + 1)) (300 * d + 236) ((t (i + d + 2) - x) / (t (i + d + 2) - t (i + 1)) * lbas t x d (i + 1)) := fun h => ((p2 h).2.times a2).mono (by omega)
    refine ⟨⟨fun h => ⟨gr_sm (ht i), gr_sm (ht _), (p1 h).1, o1, a1.sm d1 D2 (by omega)⟩, fun h => ⟨gr_sm (ht _), gr_sm (ht _), (p2 h).1, o2, a2.sm d1 D2 (by omega), f1'.sm e1 E2 (by omega), (f2' h).sm e1 E2 (by omega)⟩⟩, ?_⟩
    show Lat _ _ (if t (i + 1) = t (i + d + 2) then _ else _)
    split
    · exact f1'.mono (by omega)
    · next h => exact (f1'.plus (f2' h)).mono (by omega)
theorem lsum_lat {P e : Nat} (hP : 0 < P) (hP2 : P < 2 ^ 2400) : ∀ (l : List Rat) (acc : Rat) (k : Nat), e + k + l.length ≤ 90000 → AL P e l → Lat P (e + k) acc → lsumOk acc l
  | [], _, _, _, _, _ => trivial
  | a :: l, acc, k, hk, h, ha => by
    rw [List.length_cons] at hk
    have h0 := h a List.mem_cons_self
    exact ⟨ha.sm hP hP2 (by omega), h0.sm hP hP2 (by omega), lsum_lat hP hP2 l (acc + a) (k + 1) (by omega) (fun b hb => h b (List.mem_cons_of_mem _ hb)) ((ha.plus h0).mono (by omega))⟩
theorem te_gr {d : Nat} {kn : List Rat} (h : KnG d kn) (i : Nat) : Gr 144 3024 (te kn i) := h.gr _ (mem_getD (by have := h.len2; omega))
theorem val_ok {d : Nat} {kn c : List Rat} (h : KnG d kn) (hn : c.length + d + 1 = kn.length) {C e m : Nat} (hC : 0 < C) (hC2 : C ≤ 2 ^ 1400) (he : e ≤ 40000) (hc : AL C e c) {x : Rat} (hm : 0 < m) (hm2 : m ≤ 7) (hx : Lat (144 * m) 17 x) : ValOk (tk kn) (tk c) d x c.length := by
  have S := h.spl hn
  have d4 := h.d4
  have l16 := h.len16
  have X0 : 0 < 144 * m := by omega
  have X2 : 144 * m ≤ 2 ^ 10 := by show _ ≤ 1024; omega
  obtain ⟨d1, d2⟩ := LL_ok (te_gr h) X0 X2 d
  have D2 := lt_2400 d2 (by omega)
  have P2 : C * LL (te kn) (144 * m) d < 2 ^ 2400 := by
    have : C * LL (te kn) (144 * m) d ≤ 2 ^ (1400 + 218 * d) := by rw [Nat.pow_add]; exact Nat.mul_le_mul hC2 d2
    exact lt_2400 this (by omega)
  have P0 := Nat.mul_pos hC d1
  have one : ∀ i, i < c.length → lbOk (tk kn) x d i ∧ Lat (LL (te kn) (144 * m) d) (300 * d + 1) (lbas (tk kn) x d i) := fun i hi => by
    obtain ⟨a, b⟩ := lb_lat (te_gr h) S.mono hm hm2 hx d i d4 (by omega)
    have cg : ∀ k, i ≤ k → k ≤ i + d + 1 → tk kn k = te kn k := fun k h1 h2 => (te_tk (by omega)).symm
    exact ⟨lbOk_congr x d i cg a, by rw [lbas_congr x d i cg]; exact b⟩
  refine ⟨fun i hi => ⟨(one i hi).1, (one i hi).2.sm d1 D2 (by omega), (al_getD hc i).sm hC (lt_2400 hC2 (by decide)) (by omega)⟩, ?_⟩
  refine lsum_lat (e := e + 1201) P0 P2 _ 0 0 (by rw [terms_len]; omega) (fun a ha => ?_) (Lat.zero _ _)
  obtain ⟨i, hi, rfl⟩ := List.mem_map.mp ha
  exact ((al_getD hc i).times (one i (List.mem_range.mp hi)).2).mono (by omega)
/-- .. of the pieces -/
theorem bpOk_congr {t t' : Nat → Rat} (j : Nat) : ∀ d i, (∀ k, i ≤ k → k ≤ i + d + 1 → t k = t' k) → bpOk t' d i j → bpOk t d i j
  | 0, i, _, _ => trivial
  | d + 1, i, h, ok => by
    obtain ⟨o1, o2⟩ := ok
    have c1 := bpoly_congr j d i (fun k h1 h2 => h k h1 (by omega))
    have c2 := bpoly_congr j d (i + 1) (fun k h1 h2 => h k (by omega) (by omega))
    have l1 := bpOk_congr j d i (fun k h1 h2 => h k h1 (by omega))
    have l2 := bpOk_congr j d (i + 1) (fun k h1 h2 => h k (by omega) (by omega))
    have e0 := h i (by omega) (by omega)
    have e1 := h (i + 1) (by omega) (by omega)
    have e2 := h (i + d + 1) (by omega) (by omega)
    have e3 := h (i + d + 2) (by omega) (by omega)
    refine ⟨fun z => ?_, fun z => ?_⟩
    · rw [e0, e2] at z ⊢
      rw [c1]
      obtain ⟨a, b, c⟩ := o1 z
      exact ⟨a, l1 b, c⟩
    · rw [e1, e3] at z
      rw [e0, e1, e2, e3, c1, c2]
      obtain ⟨a, b, c⟩ := o2 z
      exact ⟨a, l2 b, c⟩
section
variable {d : Nat} {kn c : List Rat} {C e : Nat}
theorem pcs_lat (h : KnG d kn) (hn : c.length + d + 1 = kn.length) (hC : 0 < C) (hC2 : C ≤ 2 ^ 1400) (he : e ≤ 5000) (hc : AL C e c) :
    pcsOk kn c d ∧ (∀ p ∈ pieces kn c d, Gr 144 3024 p.1 ∧ AL (DD (te kn) d * C) (e + 1000) p.2.2 ∧ p.2.2.length ≤ d + 1) ∧ 0 < DD (te kn) d * C ∧ DD (te kn) d * C ≤ 2 ^ (832 + 1400) := by
  have S := h.spl hn
  have d4 := h.d4
  have l16 := h.len16
  obtain ⟨d1, d2⟩ := DD_ok (te_gr h) d
  refine ⟨fun j hj hne => ?_, fun p hp => ?_, Nat.mul_pos d1 hC, ?_⟩
  · have e1 : tk kn j = te kn j := (te_tk (by omega)).symm
    have e2 : tk kn (j + 1) = te kn (j + 1) := (te_tk (by omega)).symm
    rw [e1, e2] at hne
    have hlt : te kn j < te kn (j + 1) := by have := S.mono j (j + 1) (by omega); grind
    have b1 := S.low hlt
    have b2 := S.high hlt
    refine ⟨b1, b2, ?_⟩
    obtain ⟨_, ok⟩ := pp_lat (te_gr h) S.mono d4 b1 (by omega) hC hC2 he (fun i => al_getD hc i)
    intro r hr
    obtain ⟨o1, o2, o3, o4, o5⟩ := ok r hr
    have cg : ∀ k, j - d + r ≤ k → k ≤ j - d + r + d + 1 → tk kn k = te kn k := fun k h1 h2 => (te_tk (by omega)).symm
    have cb := bpoly_congr (t := tk kn) (t' := te kn) j d (j - d + r) cg
    have cp : ppolyN (tk kn) (tk c) d j r = ppolyN (te kn) (tk c) d j r := ppolyN_congr b1 (fun k h1 h2 => (te_tk (by omega)).symm) r (by omega)
    rw [cb, cp]
    exact ⟨bpOk_congr j d _ cg o1, o2, o3, o4, o5⟩
  · rw [pieces_te h hn] at hp
    obtain ⟨j, h1, h2, rfl⟩ := pcsN_mem hp
    have hlt : te kn j < te kn (j + 1) := by have := S.mono j (j + 1) (by omega); grind
    have b1 := S.low hlt
    have b2 := S.high hlt
    obtain ⟨a1, _⟩ := pp_lat (te_gr h) S.mono d4 b1 (by omega) hC hC2 he (fun i => al_getD hc i)
    exact ⟨te_gr h j, fun a ha => (a1 (d + 1) (Nat.le_refl _) a ha).mono (by omega), ppoly_lenB _ _ _ _⟩
  · rw [Nat.pow_add]
    exact Nat.mul_le_mul (Nat.le_trans d2 (Nat.pow_le_pow_right (by decide) (by omega))) hC2
end
end Bc
end
section
set_option Elab.async false
set_option linter.all false
set_option maxRecDepth 100000
set_option exponentiation.threshold 200000
namespace Bc
/-! ### a knot put in -/
section
variable {d : Nat} {kn c : List Rat} {x : Rat}
theorem KnG.kok (h : KnG d kn) : KOk d kn := by
  have l2 := h.len2
  refine ⟨h.d4, h.len2, h.len16, fun a ha => gr_sm (h.gr a ha), fun i hi => h.so i (i + 1) (by omega) hi, fun i hi => ?_, (h.hd d (Nat.le_refl d)).symm, (h.la (kn.length - d - 1) (Nat.le_refl _) (by omega)).symm⟩
  have := h.mu i hi
  grind
theorem sok_of (h : KnG d kn) (hn : c.length + d + 1 = kn.length) {C e : Nat} (hC : 0 < C) (hC2 : C ≤ 2 ^ 1400) (he : e ≤ 40000) (hc : AL C e c) : SOk d kn c :=
  ⟨h.kok, hn, fun a ha => (hc a ha).sm hC (lt_2400 hC2 (by decide)) (by omega)⟩
theorem spanN_at (h : KnG d kn) {j : Nat} (h1 : kn.getD j 0 ≤ x) (h2 : x < kn.getD (j + 1) 0) : ∀ m, j < m → m < kn.length → spanN kn x m = j
  | 0, h3, _ => by omega
  | m + 1, h3, h4 => by
    show (if kn.getD m 0 ≠ kn.getD (m + 1) 0 ∧ ¬ x < kn.getD m 0 then m else spanN kn x m) = j
    by_cases e : m = j
    · subst e
      rw [if_pos ⟨by grind, by grind⟩]
    · have := h.so (j + 1) m (by omega) (by omega)
      rw [if_neg (fun z => z.2 (by grind))]
      exact spanN_at h h1 h2 m (by omega) (by omega)
theorem span_at (h : KnG d kn) (hn : c.length + d + 1 = kn.length) (lo : kn.getD 0 0 < x) (hi : x < kn.getD (kn.length - 1) 0) : d ≤ span kn x ∧ span kn x < c.length ∧ kn.getD (span kn x) 0 ≤ x ∧ x < kn.getD (span kn x + 1) 0 := by
  have S := h.spl hn
  have t0 : te kn 0 = kn.getD 0 0 := te_tk (by omega)
  have tn : te kn c.length = kn.getD (kn.length - 1) 0 := by
    rw [te_tk (by omega)]; exact h.la _ (by omega) (by omega)
  obtain ⟨j, j1, j2, j3⟩ := find_iv (t := te kn) (by rw [t0]; exact Rat.le_of_lt lo) c.length (by rw [tn]; exact hi)
  have e1 : te kn j = kn.getD j 0 := te_tk (by omega)
  have e2 : te kn (j + 1) = kn.getD (j + 1) 0 := te_tk (by omega)
  have hs : span kn x = j := spanN_at h (by rw [← e1]; exact j2) (by rw [← e2]; exact j3) _ (by omega) (by omega)
  rw [hs]
  refine ⟨S.low (by grind), j1, by rw [← e1]; exact j2, by rw [← e2]; exact j3⟩
theorem lat_num2 {a b u : Rat} {m k : Nat} (ha : Gr 144 3024 a) (hb : Gr 144 3024 b) (hu : Gr 144 m u) (hm : m < 2 ^ k) (hab : a < b) : Lat (wd a b) k (u * (1 / (b - a))) := by
  obtain ⟨w1, w2, w3⟩ := wd_ok ha hb
  have e := w3 hab
  obtain ⟨n, rfl, hn⟩ := hu
  refine ⟨n, ?_, by omega⟩
  have hne : b - a ≠ 0 := by grind
  rw [← e]
  grind
/-- the middle coefficients -/
theorem wk_mid (h : KnG d kn) (hn : c.length + d + 1 = kn.length) {C e : Nat} (hc : AL C e c) (gx : Gr 144 3024 x) {i : Nat} (hi : i < c.length) (hlt : tk kn i < tk kn (i + d)) :
    Lat (FF (te kn) d) 222 ((x - tk kn i) / (tk kn (i + d) - tk kn i)) ∧ Lat (FF (te kn) d * C) (e + 223) ((x - tk kn i) / (tk kn (i + d) - tk kn i) * (tk c i - tk c (i - 1))) ∧ Lat C (e + 1) (tk c i - tk c (i - 1)) := by
  have l16 := h.len16
  have e1 : tk kn i = te kn i := (te_tk (by omega)).symm
  have e2 : tk kn (i + d) = te kn (i + d) := (te_tk (by omega)).symm
  rw [e1, e2] at hlt ⊢
  have g := gx.sub (by decide) (te_gr h i)
  have l1 := (lat_num2 (k := 13) (te_gr h i) (te_gr h (i + d)) g (by decide) hlt).toF (te_gr h) (show i < 16 by omega)
  have eq : (x - te kn i) / (te kn (i + d) - te kn i) = (x - te kn i) * (1 / (te kn (i + d) - te kn i)) := by grind
  rw [eq]
  have l2 := ((al_getD hc i).minus (al_getD hc (i - 1))).mono (show max e e + 1 ≤ e + 1 by omega)
  exact ⟨l1, (l1.times l2).mono (by omega), l2⟩
theorem wk_ok (h : KnG d kn) (hn : c.length + d + 1 = kn.length) {C e : Nat} (hC : 0 < C) (hC2 : C ≤ 2 ^ 1400) (he : e ≤ 40000) (hc : AL C e c) (gx : Gr 144 3024 x) (lo : kn.getD 0 0 < x) (hi : x < kn.getD (kn.length - 1) 0) : WkOk d kn c x := by
  obtain ⟨s1, s2, s3, s4⟩ := span_at h hn lo hi
  have l16 := h.len16
  have C2 := lt_2400 hC2 (by decide)
  obtain ⟨f1, f2⟩ := FF_ok (te_gr h) d
  have FC : FF (te kn) d * C < 2 ^ 2400 := by
    have : FF (te kn) d * C ≤ 2 ^ (208 + 1400) := by rw [Nat.pow_add]; exact Nat.mul_le_mul f2 hC2
    exact lt_2400 this (by decide)
  refine ⟨gr_sm gx, hn, by omega, fun a ha => gr_sm (h.gr a ha), fun a ha => (hc a ha).sm hC C2 (by omega), by omega, fun i h1 h2 h3 => ?_, fun i h1 h2 => by omega⟩
  have i1 : 1 ≤ i := by omega
  have i2 : i < c.length := by omega
  have hlt : tk kn i < tk kn (i + d) := by
    have a := h.so i (span kn x) (by omega) (by omega)
    have b := h.so (span kn x + 1) (i + d) (by omega) (by omega)
    show kn.getD i 0 < kn.getD (i + d) 0
    grind
  obtain ⟨r1, r2, r3⟩ := wk_mid h hn hc gx i2 hlt
  have gi : Gr 144 3024 (tk kn i) := h.gr _ (mem_getD (by omega))
  have gd : Gr 144 3024 (tk kn (i + d)) := h.gr _ (mem_getD (by omega))
  have g1 := gx.sub (by decide) gi
  have g2 := gd.sub (by decide) gi
  exact ⟨i1, i2, by omega, g1.sm (by decide) (by decide) (by decide), hlt, g2.sm (by decide) (by decide) (by decide), gr_num g2 (by decide) (by decide), r1.sm f1 (lt_2400 f2 (by decide)) (by decide), r3.sm hC C2 (by omega), r2.sm (Nat.mul_pos f1 hC) FC (by omega)⟩
theorem wk_row (h : KnG d kn) (hn : c.length + d + 1 = kn.length) {C e : Nat} (hc : AL C e c) (gx : Gr 144 3024 x) (lo : kn.getD 0 0 < x) (hi : x < kn.getD (kn.length - 1) 0) : AL (C * FF (te kn) d) (e + 230) (wkRow d kn c x) := by
  obtain ⟨s1, s2, s3, s4⟩ := span_at h hn lo hi
  obtain ⟨f1, f2⟩ := FF_ok (te_gr h) d
  intro a ha
  obtain ⟨i, hi', rfl⟩ := List.mem_map.mp ha
  have hi' := List.mem_range.mp hi'
  have up : ∀ i, Lat (C * FF (te kn) d) (e + 209) (tk c i) := fun i => (al_getD hc i).up (Nat.lt_of_le_of_lt f2 (Nat.pow_lt_pow_right (by decide) (by decide)))
  show Lat _ _ (if (i : Int) ≤ (span kn x : Int) - d then tk c i else if span kn x < i then tk c (i - 1) else tk c (i - 1) + (x - tk kn i) / (tk kn (i + d) - tk kn i) * (tk c i - tk c (i - 1)))
  split
  · exact (up i).mono (by omega)
  · split
    · exact (up (i - 1)).mono (by omega)
    · have hlt : tk kn i < tk kn (i + d) := by
        have a := h.so i (span kn x) (by omega) (by omega)
        have b := h.so (span kn x + 1) (i + d) (by omega) (by omega)
        show kn.getD i 0 < kn.getD (i + d) 0
        grind
      obtain ⟨_, r2, _⟩ := wk_mid h hn hc gx (by omega) hlt
      rw [Nat.mul_comm] at r2
      exact ((up (i - 1)).plus r2).mono (by omega)
theorem wkKn_len (h : span kn x < kn.length) : (wkKn kn x).length = kn.length + 1 := by
  unfold wkKn
  rw [List.length_append, List.length_take, List.length_cons, List.length_drop]; omega
theorem wkKn_at (h : span kn x < kn.length) (i : Nat) : (wkKn kn x).getD i 0 = if i ≤ span kn x then kn.getD i 0 else if i = span kn x + 1 then x else kn.getD (i - 1) 0 := by
  unfold wkKn
  have hl : (kn.take (span kn x + 1)).length = span kn x + 1 := by rw [List.length_take]; omega
  by_cases e : i ≤ span kn x
  · rw [if_pos e, gD_app (by omega), gD_take (by omega)]
  · rw [if_neg e, gD_app2 (by omega), hl]
    by_cases e2 : i = span kn x + 1
    · rw [if_pos e2, e2, Nat.sub_self]; rfl
    · rw [if_neg e2, show i - (span kn x + 1) = (i - span kn x - 2) + 1 by omega]
      show (kn.drop (span kn x + 1)).getD (i - span kn x - 2) 0 = _
      rw [List.getD_eq_getElem?_getD, List.getElem?_drop, List.getD_eq_getElem?_getD, show span kn x + 1 + (i - span kn x - 2) = i - 1 by omega]
theorem wk_kn (h : KnG d kn) (hn : c.length + d + 1 = kn.length) (gx : Gr 144 3024 x) (lo : kn.getD 0 0 < x) (hi : x < kn.getD (kn.length - 1) 0) (hc : cnt kn x ≤ d) (hl : kn.length < 16) : KnG d (wkKn kn x) := by
  obtain ⟨s1, s2, s3, s4⟩ := span_at h hn lo hi
  have sl : span kn x < kn.length := by omega
  have wl := wkKn_len sl
  have wa := wkKn_at sl
  have l2 := h.len2
  generalize hs : span kn x = s at *
  have mu1 : kn.getD (s - d) 0 < x := by
    have a := h.so (s - d) s (by omega) sl
    have : kn.getD (s - d) 0 ≠ x := fun e => by
      have hx : x ∈ kn := by rw [← e]; exact mem_getD (by omega)
      obtain ⟨q, k⟩ := knot_of h hx lo hi
      have k1 := k.cn
      have k2 : idx kn x ≤ s - d := by
        apply Classical.byContradiction
        intro z
        have := k.bel (s - d) (by omega)
        grind
      have k3 : s < q := by
        apply Classical.byContradiction
        intro z
        have := k.abo s (by omega) sl
        grind
      omega
    grind
  refine ⟨h.d4, by omega, by omega, fun i j h1 h2 => ?_, fun i h1 => ?_, fun i h1 h2 => ?_, fun i h1 => ?_, fun y hy => ?_, ?_⟩
  · rw [wl] at h2
    rw [wa i, wa j]
    by_cases i1 : i ≤ s
    · rw [if_pos i1]
      by_cases j1 : j ≤ s
      · rw [if_pos j1]; exact h.so i j h1 (by omega)
      · rw [if_neg j1]
        have a := h.so i s i1 sl
        by_cases j2 : j = s + 1
        · rw [if_pos j2]; grind
        · rw [if_neg j2]; exact h.so i (j - 1) (by omega) (by omega)
    · rw [if_neg i1, if_neg (show ¬ j ≤ s by omega)]
      by_cases i2 : i = s + 1
      · rw [if_pos i2]
        by_cases j2 : j = s + 1
        · rw [if_pos j2]; exact Rat.le_refl
        · rw [if_neg j2]
          have := h.so (s + 1) (j - 1) (by omega) (by omega)
          grind
      · rw [if_neg i2, if_neg (show ¬ j = s + 1 by omega)]
        exact h.so (i - 1) (j - 1) (by omega) (by omega)
  · rw [wa i, wa 0, if_pos (by omega), if_pos (by omega)]; exact h.hd i h1
  · rw [wl] at h1 h2
    rw [wa i, wl, wa (kn.length + 1 - 1), if_neg (by omega), if_neg (by omega), if_neg (by omega), if_neg (by omega), show kn.length + 1 - 1 - 1 = kn.length - 1 by omega]
    exact h.la (i - 1) (by omega) (by omega)
  · rw [wl] at h1
    rw [wa i, wa (i + d + 1)]
    by_cases i1 : i ≤ s
    · rw [if_pos i1]
      by_cases j1 : i + d + 1 ≤ s
      · rw [if_pos j1]; exact h.mu i (by omega)
      · rw [if_neg j1]
        by_cases j2 : i + d + 1 = s + 1
        · rw [if_pos j2, show i = s - d by omega]; exact mu1
        · rw [if_neg j2]
          have a := h.so i s i1 sl
          have b := h.so (s + 1) (i + d + 1 - 1) (by omega) (by omega)
          grind
    · rw [if_neg i1, if_neg (show ¬ i + d + 1 ≤ s by omega), if_neg (show ¬ i + d + 1 = s + 1 by omega)]
      by_cases i2 : i = s + 1
      · rw [if_pos i2]
        have b := h.so (s + 1) (i + d + 1 - 1) (by omega) (by omega)
        grind
      · rw [if_neg i2]
        have := h.mu (i - 1) (by omega)
        rw [show i - 1 + d + 1 = i + d + 1 - 1 by omega] at this
        exact this
  · unfold wkKn at hy
    rcases List.mem_append.mp hy with hy | hy
    · exact h.gr y (List.mem_of_mem_take hy)
    · rcases List.mem_cons.mp hy with rfl | hy
      · exact gx
      · exact h.gr y (List.mem_of_mem_drop hy)
  · rw [wl, wa 0, wa (kn.length + 1 - 1), if_pos (by omega), if_neg (by omega), if_neg (by omega), show kn.length + 1 - 1 - 1 = kn.length - 1 by omega]
    exact h.ge
end
end Bc
end
section
set_option Elab.async false
set_option linter.all false
set_option maxRecDepth 100000
set_option exponentiation.threshold 200000
namespace Bc
/-! ### the plain law -/
section
variable {d : Nat} {kn c : List Rat} {x : Rat} {C e : Nat}
theorem pj_al (h : KnG d kn) (hn : c.length + d + 1 = kn.length) (hC : 0 < C) (hC2 : C ≤ 2 ^ 1400) (he : e ≤ 5000) (hc : AL C e c) {j : Nat} (hj : te kn j < te kn (j + 1)) : AL (DD (te kn) d * C) (e + 1000) (ppoly (te kn) (tk c) d j) := by
  have S := h.spl hn
  have l16 := h.len16
  have d4 := h.d4
  have b2 := S.high hj
  obtain ⟨a1, _⟩ := pp_lat (te_gr h) S.mono h.d4 (S.low hj) (by omega) hC hC2 he (fun i => al_getD hc i)
  exact fun a ha => (a1 (d + 1) (Nat.le_refl _) a ha).mono (by omega)
theorem win_al (h : KnG d kn) (i : Nat) : AL 144 12 (wincut kn i d) := fun a ha => (h.gr a (List.mem_of_mem_drop (List.mem_of_mem_take ha))).lat (by decide) (by decide)
/-- the new row: blossoms reckoned, their sizes -/
theorem row_lat {q : Nat} (h : KnG d kn) (hn : c.length + d + 1 = kn.length) (k : Knot d kn x (idx kn x) q) (hx : x ∈ kn) (hC : 0 < C) (hC2 : C ≤ 2 ^ 1300) (he : e ≤ 5000) (hc : AL C e c) {i : Nat} (hi : i < c.length - 1) :
    blossomOk (polyOver (pieces kn c d) (tk (kless kn x) (firstN (tk (kless kn x)) i d))) (wincut (kless kn x) i d) ∧ (polyOver (pieces kn c d) (tk (kless kn x) (firstN (tk (kless kn x)) i d))).length ≤ d + 1 ∧
      Lat (DD (te kn) d * C * (144 ^ d * 12)) (e + 1200) ((rowFrom (pieces kn c d) d (kless kn x)).getD i 0) := by
  obtain ⟨r, r1, r2, r3, ep, _⟩ := row_bl h hn k hx hi
  have k1 := k.p1
  have k2 := k.pq
  have k3 := k.qn
  have kl := kless_len hx
  have hk := kless_kn h hn k hx
  have d4 := h.d4
  have tp : te kn (idx kn x - 1) < te kn (idx kn x) := by
    rw [k.tp (Nat.le_refl _) k2, te_tk (by omega)]; exact k.bel _ (by omega)
  have ho := old_iv tp (by omega) r3
  have al := pj_al h hn hC (Nat.le_trans hC2 (Nat.pow_le_pow_right (by decide) (by decide))) he hc ho
  have hw : (wincut (kless kn x) i d).length = d := by rw [wincut_win (by omega), win_len]
  obtain ⟨d1, d2⟩ := DD_ok (te_gr h) d
  have P0 := Nat.mul_pos d1 hC
  have P2 : DD (te kn) d * C ≤ 2 ^ 2240 := by
    have : DD (te kn) d * C ≤ 2 ^ (208 * d + 1300) := by rw [Nat.pow_add]; exact Nat.mul_le_mul d2 hC2
    exact Nat.le_trans this (Nat.pow_le_pow_right (by decide) (by omega))
  rw [ep]
  have pl := ppoly_lenB (te kn) (tk c) d (old (idx kn x) r)
  obtain ⟨b1, b2⟩ := blossom_lat (by omega) (by omega) (win_al hk i) P0 P2 (by omega) al
  rw [hw] at b2
  refine ⟨b1, pl, ?_⟩
  have er : (rowFrom (pieces kn c d) d (kless kn x)).getD i 0 = blossom (polyOver (pieces kn c d) (tk (kless kn x) (firstN (tk (kless kn x)) i d))) (wincut (kless kn x) i d) := rowN_at _ _ _ _ (by omega)
  rw [er, ep]; exact b2
theorem gr720 (h : Gr 720 15120 x) : Lat 720 17 x := (h.lat (k := 14) (by decide) (by decide)).mono (by decide)
theorem law_ok (h : KnG d kn) (hn : c.length + d + 1 = kn.length) (hC : 0 < C) (hC2 : C ≤ 2 ^ 420) (he : e ≤ 1000) (hc : AL C e c) (gx : Gr 720 15120 x) (lo : kn.getD 0 0 < x) (hi : x < kn.getD (kn.length - 1) 0) : LawOk d kn c x := by
  have d4 := h.d4
  have l2 := h.len2
  have l16 := h.len16
  have C14 : C ≤ 2 ^ 1400 := Nat.le_trans hC2 (Nat.pow_le_pow_right (by decide) (by decide))
  obtain ⟨pk, pm, P0, P2⟩ := pcs_lat h hn hC C14 (by omega) hc
  have P2' : DD (te kn) d * C ≤ 2 ^ 2240 := Nat.le_trans P2 (Nat.pow_le_pow_right (by decide) (by decide))
  have hX := gr720 gx
  have so := sok_of h hn hC C14 (by omega) hc
  refine ⟨gx.sm (by decide) (by decide) (by decide), lo, hi, so, pk, fun i a b ha hb _ => ?_, fun p hp => gr_sm (pm p hp).1, fun o ho => ⟨?_, ?_⟩, law_due h hn lo, law_no h hn, fun hx hs => ?_⟩
  · obtain ⟨_, a1, a2⟩ := pm a (List.mem_of_getElem? ha)
    obtain ⟨_, b1, b2⟩ := pm b (List.mem_of_getElem? hb)
    exact ord_ok hX (by decide) (by decide) P0 P2' (d + 1) (e + 1000) _ _ (by omega) (by omega) (by omega) a1 b1
  · rcases leftP_mem (x := x) (pieces kn c d) [] with e1 | ⟨p, hp, e1⟩
    · rw [e1]; exact sl_ok hX (by decide) (by decide) P0 P2' (show e + 1000 ≤ 40000 by omega) (by simp) (fun a ha => by cases ha) (by omega)
    · rw [e1]
      obtain ⟨_, a1, a2⟩ := pm p hp
      exact sl_ok hX (by decide) (by decide) P0 P2' (by omega) (by omega) a1 (by omega)
  · rcases rightP_mem (x := x) (pieces kn c d) [] with e1 | ⟨p, hp, e1⟩
    · rw [e1]; exact sl_ok hX (by decide) (by decide) P0 P2' (show e + 1000 ≤ 40000 by omega) (by simp) (fun a ha => by cases ha) (by omega)
    · rw [e1]
      obtain ⟨_, a1, a2⟩ := pm p hp
      exact sl_ok hX (by decide) (by decide) P0 P2' (by omega) (by omega) a1 (by omega)
  · obtain ⟨q, k⟩ := knot_of h hx lo hi
    have k1 := k.p1
    have k2 := k.pq
    have k3 := k.qn
    have kl := kless_len hx
    have hk := kless_kn h hn k hx
    obtain ⟨rl, rla⟩ := row_last h hn k hx hs
    have hn' : (rowFrom (pieces kn c d) d (kless kn x)).length + d + 1 = (kless kn x).length := by omega
    have S' := hk.spl hn'
    have smk : ∀ a ∈ kless kn x, Sm a := fun a ha => gr_sm (hk.gr a ha)
    have rlat := fun i (hi : i < c.length - 1) => row_lat h hn k hx hC (Nat.le_trans hC2 (Nat.pow_le_pow_right (by decide) (by decide))) (by omega) hc hi
    have e0 : (kless kn x).getD 0 0 = kn.getD 0 0 := by rw [kless_at hx, if_pos (by omega)]
    have e1 : (kless kn x).getD ((kless kn x).length - 1) 0 = kn.getD (kn.length - 1) 0 := by
      rw [kless_at hx, kl, if_neg (by omega)]
      congr 1; omega
    obtain ⟨d1, d2⟩ := DD_ok (te_gr h) d
    have R0 : 0 < DD (te kn) d * C * (144 ^ d * 12) := Nat.mul_pos (Nat.mul_pos d1 hC) (Nat.mul_pos (Nat.pow_pos (by decide)) (by decide))
    have R2 : DD (te kn) d * C * (144 ^ d * 12) ≤ 2 ^ 1400 := by
      have a1 : DD (te kn) d * C ≤ 2 ^ (832 + 420) := by
        rw [Nat.pow_add]; exact Nat.mul_le_mul (Nat.le_trans d2 (Nat.pow_le_pow_right (by decide) (by omega))) hC2
      have a2 : 144 ^ d * 12 ≤ 2 ^ (32 + 4) := by
        rw [Nat.pow_add]; exact Nat.mul_le_mul (Nat.le_trans (p144 d (by omega)).2 (Nat.pow_le_pow_right (by decide) (by omega))) (by decide)
      have a3 : DD (te kn) d * C * (144 ^ d * 12) ≤ 2 ^ (832 + 420 + (32 + 4)) := by rw [Nat.pow_add 2 (832 + 420)]; exact Nat.mul_le_mul a1 a2
      exact Nat.le_trans a3 (Nat.pow_le_pow_right (by decide) (by decide))
    have ral : AL (DD (te kn) d * C * (144 ^ d * 12)) (e + 1200) (rowFrom (pieces kn c d) d (kless kn x)) := fun a ha => by
      obtain ⟨i, hi', rfl⟩ := List.getElem_of_mem ha
      have := (rlat i (by omega)).2.2
      have eq : (rowFrom (pieces kn c d) d (kless kn x)).getD i 0 = (rowFrom (pieces kn c d) d (kless kn x))[i] := by rw [List.getD_eq_getElem?_getD, List.getElem?_eq_getElem hi']; rfl
      rw [eq] at this; exact this
    have kne : pieces kn c d ≠ [] := fun z => by
      have S := h.spl hn
      have hkl := kn_lt h
      rw [pieces_te h hn] at z
      rcases pcsN_head (c := tk c) (d := d) S.mono (kn.length - 1) with ⟨_, h2⟩ | ⟨a, h1, h2⟩
      · have := h2 (kn.length - 1) (Nat.le_refl _)
        rw [te_tk (by omega), te_tk (by omega)] at this
        exact absurd this.symm (by show ¬ kn.getD 0 0 = kn.getD (kn.length - 1) 0; grind)
      · rw [z] at h1; cases h1
    refine ⟨⟨kne, fun p hp => gr_sm (pm p hp).1, smk, d4, by omega, by omega, fun i hi' => ?_, fun i hi' => ⟨(rlat i (by omega)).1, (rlat i (by omega)).2.1⟩⟩, ?_, ?_⟩
    · have ev : ivN (tk (kless kn x)) i (d + 1) = ivN (te (kless kn x)) i (d + 1) := ivN_congr fun k h1 h2 => (te_tk (by omega)).symm
      rw [ev]
      refine ivN_ne ?_
      have := S'.mult i (by omega)
      show te (kless kn x) i ≠ te (kless kn x) (i + d + 1)
      grind
    · refine ⟨d4, by omega, hn', smk, ?_, (hk.hd d (Nat.le_refl d)).symm, ?_⟩
      · exact sortL_self _ [] (by rw [List.nil_append]; exact sorted_of hk.so)
      · exact (hk.la ((kless kn x).length - 1 - d) (by omega) (by omega)).symm
    · refine ⟨d4, by omega, by omega, hn', hn, by omega, by omega, smk, fun a ha => gr_sm (h.gr a ha), e0, e1, ?_, fun i s hi' hs' => ?_⟩
      · rw [rl]; exact rla
      · have hpl := plcs_lt (kless kn x) kn hi'
        have ma := mem_getD (l := plcs (kless kn x) kn) (i := i) (by omega)
        have mb := mem_getD (l := plcs (kless kn x) kn) (i := i + 1) hi'
        have ga : Gr 144 3024 ((plcs (kless kn x) kn).getD i 0) := (plcs_mem ma).elim (hk.gr _) (h.gr _)
        have gb : Gr 144 3024 ((plcs (kless kn x) kn).getD (i + 1) 0) := (plcs_mem mb).elim (hk.gr _) (h.gr _)
        have ra : kn.getD 0 0 ≤ (plcs (kless kn x) kn).getD i 0 := (plcs_mem ma).elim (fun z => (h.range (kless_mem _ z)).1) (fun z => (h.range z).1)
        have rb : (plcs (kless kn x) kn).getD (i + 1) 0 ≤ kn.getD (kn.length - 1) 0 := (plcs_mem mb).elim (fun z => (h.range (kless_mem _ z)).2) (fun z => (h.range z).2)
        obtain ⟨x1, x2⟩ := plx_in hs' hpl
        have gd := gb.sub (by decide) ga
        have m0 : 0 < d + 1 := by omega
        have ls : Lat (d + 1) 3 ((s : Rat) / ((d + 1 : Nat) : Rat)) := by
          have := natc_ne m0
          exact ⟨(s : Int), by rw [Rat.intCast_natCast]; grind, by show _ < 8; omega⟩
        have lp := ls.times (gd.lat (k := 13) (by decide) (by decide))
        have lx0 : Lat (144 * (d + 1)) 15 ((plcs (kless kn x) kn).getD i 0) := (ga.lat (k := 12) (by decide) (by decide)).up (E := d + 1) (l := 3) (by show _ < 8; omega)
        rw [Nat.mul_comm] at lp
        have lx : Lat (144 * (d + 1)) 17 (plx (plcs (kless kn x) kn) i s (d + 1)) := (lx0.plus lp).mono (by decide)
        have X0 : 0 < 144 * (d + 1) := by omega
        have X2 : 144 * (d + 1) < 2 ^ 2400 := lt_2400 (k := 10) (by show _ ≤ 1024; omega) (by decide)
        have y2 : plx (plcs (kless kn x) kn) i s (d + 1) < kn.getD (kn.length - 1) 0 := by grind
        have y1 : kn.getD 0 0 ≤ plx (plcs (kless kn x) kn) i s (d + 1) := by grind
        refine ⟨gr_sm ga, gr_sm gb, gd.sm (by decide) (by decide) (by decide), lp.sm X0 X2 (by decide), lx.sm X0 X2 (by decide), by rw [e1]; grind, by grind, ?_, ?_, row_same h hn k hx hs y1 y2⟩
        · exact val_ok hk hn' R0 R2 (by omega) ral m0 (by omega) lx
        · exact val_ok h hn hC C14 (by omega) hc m0 (by omega) lx
end
/-- splines on the way: n knots put in -/
def SS (n d : Nat) (kn c : List Rat) : Prop := KnG d kn ∧ c.length + d + 1 = kn.length ∧ ∃ C e, 0 < C ∧ C ≤ 2 ^ (4 + 208 * n) ∧ e ≤ 10 + 230 * n ∧ AL C e c
theorem way : Way SS where
  s0 := fun d kn c h hn hq => ⟨h, hn, 12, 7, by decide, by decide, by decide, fun a ha => (hq a ha).lat (by decide) (by decide)⟩
  sk := fun n d kn c h => h.1
  su := fun n d kn c h => by
    obtain ⟨h1, h2, C, e, h3, h4, h5, h6⟩ := h
    exact ⟨h1, h2, C, e, h3, Nat.le_trans h4 (Nat.pow_le_pow_right (by decide) (by omega)), by omega, h6⟩
  ins := fun n d kn c x hn2 hS gx lo hi hc hl => by
    obtain ⟨h1, h2, C, e, h3, h4, h5, h6⟩ := hS
    have C14 : C ≤ 2 ^ 1400 := Nat.le_trans h4 (Nat.pow_le_pow_right (by decide) (by omega))
    obtain ⟨f1, f2⟩ := FF_ok (te_gr h1) d
    obtain ⟨s1, s2, s3, s4⟩ := span_at h1 h2 lo hi
    refine ⟨sok_of h1 h2 h3 C14 (by omega) h6, wk_ok h1 h2 h3 C14 (by omega) h6 gx lo hi, wk_kn h1 h2 gx lo hi hc hl, ?_, C * FF (te kn) d, e + 230, Nat.mul_pos h3 f1, ?_, by omega, wk_row h1 h2 h6 gx lo hi⟩
    · rw [wkKn_len (by omega)]
      unfold wkRow
      rw [List.length_map, List.length_range]; omega
    · rw [show 4 + 208 * (n + 1) = 4 + 208 * n + 208 by omega, Nat.pow_add]
      exact Nat.mul_le_mul h4 f2
  law := fun d kn c x hS gx lo hi => by
    obtain ⟨h1, h2, C, e, h3, h4, h5, h6⟩ := hS
    exact law_ok h1 h2 h3 h4 (by omega) h6 gx lo hi
end Bc
end
section
set_option Elab.async false
set_option linter.all false
set_option maxRecDepth 100000
set_option maxHeartbeats 0
namespace Bc
open PySem PySem.Spec PyProof.Rows L2
abbrev Rq := PySem.W.view R.prog [0, 78]
theorem e_def : PySem.W.defOf Rq R.name = some (HandSHeadRun.topDef R.prog 78, []) := by kernel_rfl
theorem e_p : R.prog.theDef R.name = some ((HandSHeadRun.topDef R.prog 78).params, (HandSHeadRun.topDef R.prog 78).body, (HandSHeadRun.topDef R.prog 78).scope) := by kernel_rfl
theorem e_k : PySem.W.kwWritten? (HandSHeadRun.topDef R.prog 78).params.kwonlyargs (HandSHeadRun.topDef R.prog 78).params.kw_defaults = some [] := by kernel_rfl
theorem e_w : (!R.writes || R.records.isEmpty) = true := by kernel_rfl
theorem e_s : R.wellSaid = true := by kernel_rfl
end Bc
end
section
set_option Elab.async false
set_option linter.all false
set_option maxRecDepth 100000
set_option maxHeartbeats 0
namespace Bc
open PySem PySem.Spec PyProof.Rows L2
theorem e_ok : (PySem.W.chainsOk (PySem.W.view R.prog [0, 78]) && PySem.W.opensWell R.prog && (PySem.W.frees R.toRowW && R.within.isEmpty)) = true := by kernel_rfl
end Bc
end
section
set_option Elab.async false
set_option linter.all false
set_option maxRecDepth 100000
set_option maxHeartbeats 0
namespace Bc
open PySem PySem.Spec PyProof.Rows L2
theorem e_b : R.prog.bare := ⟨rfl, rfl, rfl, rfl, rfl, by decide +kernel⟩
end Bc
end
section
set_option Elab.async false
set_option linter.all false
set_option maxRecDepth 100000
set_option maxHeartbeats 0
namespace Bc
open PySem PySem.Spec PyProof.Rows L2
theorem scr_of {K : PySem.W.Frag} {H : Hp} {a : Addr} {ns : List Int} (hO : Only H) (h : SqL K H a (ns.map V.int)) : Scr K H a ns := by
  rcases h with (h | ⟨o, h⟩) | h
  · rcases hO a with h2 | ⟨o, xs, h2⟩
    · rw [h2] at h; cases h
    · rw [h2] at h; cases h
  · exact .inl ⟨o, h⟩
  · exact .inr h
theorem law_fn2 {P : Program} {w : World} {K : PySem.W.Frag} {mg : Str → Option Value} (T : Top K mg) {S : Nat → Nat → List Rat → List Rat → Prop} (Wy : Way S) : ∃ f fd, mg "law" = some (.ref f) ∧ (∀ (s : Shared) (u : Value), BindsTo s fd ⟨[u], []⟩ [("_law_script", u)]) ∧ ∀ base : Heap, FnOk P w K mg base CX0 12 f fd ["_law_script"] (spLaw K) := by
  obtain ⟨f, fd, m, F⟩ := T.d_law
  refine ⟨f, fd, m, fun s u => F.bindsA (ps := ["_law_script"]) (fun _ _ _ _ _ _ us hl => match us, hl with | [_], _ => rfl) s [u] rfl, fun base => ?_⟩
  refine F.ok sc_law (fun vs H Q E h => by obtain ⟨sc, ns, rfl, _⟩ := h; rfl) fun cdv A outer s H vs Q E hr h => ?_
  obtain ⟨t, h1, h2⟩ := law_body (P := P) (w := w) (base := base) T Wy f cdv A outer s H vs Q E hr h
  exact ⟨t, h1.nox, h2⟩
end Bc
open PySem PySem.W PySem.Spec PyProof.Rows L2 in
theorem PySem.Challenge.cw_blendcurves_k32_whole_smooth_joints_holds : PySem.Challenge.rw_blendcurves_k32_whole_smooth_joints.Holds := by
  w_on; o_law
  refine HandSHeadRun.head_imp (d := HandSHeadRun.topDef Bc.R.prog 78) Bc.ob_eq Bc.run Bc.e_def Bc.e_p Bc.e_k Bc.e_w Bc.e_s Bc.e_ok Bc.e_b ?hw ?hc
  case hw => w_witness2
  case hc =>
    refine L2.walk_ofE (l := PySem.Challenge.rw_blendcurves_k32_whole_smooth_joints) (n := 63) (k := 12) (x := "_law_script") (CX := L2.CX0) (by kernel_rfl) (by decide) (by kernel_rfl) ⟨by kernel_rfl, by decide, by decide⟩ ?F (fun _ _ _ _ z => z)
    intro w mg fa h Y G hmg0
    obtain ⟨K, KX, c⟩ := Y
    have T := Bc.top_of KX G c
    have hmg : mg ("law" : PySem.Str) = some (.ref fa) := by
      have e : (HandSHeadRun.topDef Bc.R.prog 78).name = ("law" : PySem.Str) := by kernel_rfl
      rw [← e]
      exact hmg0
    obtain ⟨f, fd, m, hb, hF⟩ := Bc.law_fn2 (P := Bc.R.prog) (w := w) T Bc.way
    have ef : f = fa := by
      rw [hmg] at m
      exact (Value.ref.inj (Option.some.inj m)).symm
    subst ef
    exact ⟨K, fd, Bc.spLaw K, KX, hb, fun H a ns _ hO hS => ⟨a, ns, rfl, Bc.scr_of hO hS, fun _ => rfl⟩, fun base _ _ => hF base⟩
end
